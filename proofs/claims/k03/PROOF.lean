import PyProof.Rows.All
import Wide.All
import OpenK.AllK
import Wide.FinOn
import HandS.ForMost
import HandS.ForExc
import HandS.Defaults
import HandS.Wide
import HandS.Gcd
import HandS.Flow
import HandS.Deep
import HandS.ExcInit
import HandS.TryMany
import HandS.IsInst
import HandS.TupAny
import HandS.SortInts
import HandS.Style
import HandS.More
import KE.GoesEnum
import KE.KDictZip
import HandS.Text
import HandS.Star
import HandS.Codes
import HandS.Iter
import HandS.ExcOwn
import HandS.ExcField
import HandS.HeadHook2
import HandS.HeadEnd
import HandS.Head3
import HandS.Words
import PySem.Challenge.RW_rankedwishes_k03_whole_put_in
section
set_option Elab.async false
set_option linter.all false
set_option maxRecDepth 100000
set_option maxHeartbeats 2000000
/-! Values by data, a small heap of what is changed, and how they stand for the abstract heap. -/
namespace Mx
open PySem PySem.Spec PyProof.Rows L2

/-- a value: what never changes by its data, what changes by its number -/
inductive PV where
  | non | bl (b : Bool) | int (i : Int) | str (x : Str)
  | tup (xs : List PV) | lst (xs : List PV)
  | dic (ks : List Key) (xs : List PV)
  | ref (n : Nat)
  | exn (c : Str) (v : PV)
  | fn (f : Str)

/-- what changes -/
inductive MO where
  | lst (xs : List PV)
  | dic (kvs : List (Key × PV))
  | fdic (kvs : List (Key × PV))
  | ins (c : Str) (fs : List (Str × PV))

abbrev MH := List MO

/-- what runs hand on -/
inductive Res (α : Type) where
  | ok (a : α) (h : MH)
  | exn (c : Str) (v : PV) (h : MH)
  | stuck

/-! ### keys -/
/-- the key that a value is -/
def keyOf : PV → Option Key
  | .int i => some (.inl i)
  | .str x => some (.inr x)
  | _ => none

/-! ### how a value stands for one of the layer's -/
/-- the written part, the module's names -/
structure Wr where
  K : PySem.W.Frag
  mg : Str → Option Value
/-- an exception held as a value: its class, its own dict -/
def ExV (C dd a : Addr) : HO := .ext fun h => ∃ (oe : Obj) (vs : Array Value), h.get? a = some oe ∧ oe.cls = .ref C ∧ oe.dict = some dd ∧ oe.data = .fields vs
/-- a tuple whose object is known to have no dict -/
def SqN (K : PySem.W.Frag) (G : Hp) (a : Addr) (xs : List V) : Prop := (∃ o, G a = some (.frz o (.tup xs)) ∧ o.dict = none) ∨
  ∃ (o : Obj) (its : Array Value) (n : Nat), K.lookup a = some o ∧ o.cls = .type "tuple" ∧ o.data = .seq its n ∧ its.size ≤ sizeLine ∧ Vals xs its.toList ∧ o.dict = none
theorem SqN.sqT {K : PySem.W.Frag} {G : Hp} {a : Addr} {xs : List V} (h : SqN K G a xs) : SqT K G a xs := by
  rcases h with ⟨o, h, _⟩ | ⟨o, its, n, h1, h2, h3, h4, h5, _⟩
  · exact .inl (.inr ⟨o, h⟩)
  · exact .inr ⟨o, its, n, h1, h2, h3, h4, h5⟩
theorem Same.seqN {K : PySem.W.Frag} {H H' : Hp} {a : Addr} {xs : List V} (e : Same H H') (h : SqN K H a xs) : SqN K H' a xs := by
  rcases h with ⟨o, h, d⟩ | h
  · exact .inl ⟨o, e _ _ h, d⟩
  · exact .inr h
mutual
inductive RV (K : Wr) (G : Hp) (ι : List Addr) : PV → V → Prop
  | non : RV K G ι .non .non
  | bl (b : Bool) : RV K G ι (.bl b) (.bl b)
  | int (i : Int) : RV K G ι (.int i) (.int i)
  | str (x : Str) : RV K G ι (.str x) (.str x)
  | tup {a : Addr} {xs : List PV} {vs : List V} : SqN K.K G a vs → RVs K G ι xs vs → RV K G ι (.tup xs) (.ref a)
  | lst {a : Addr} {xs : List PV} {vs : List V} : Rd G a (.lst vs) → RVs K G ι xs vs → RV K G ι (.lst xs) (.ref a)
  | dic {a : Addr} {ks : List Key} {xs : List PV} {kvs : List (Key × V)} : Rd G a (.dK kvs) → ks = kvs.map (·.1) → RVs K G ι xs (kvs.map (·.2)) → RV K G ι (.dic ks xs) (.ref a)
  | ref {n : Nat} {a : Addr} : ι[n]? = some a → RV K G ι (.ref n) (.ref a)
  | exn {a C dd : Addr} {c : Str} {x : PV} {v : V} : K.mg c = some (.ref C) → G a = some (ExV C dd a) → G dd = some (.xd [(("value" : Str), v)]) → RV K G ι x v → RV K G ι (.exn c x) (.ref a)
  | fn {f : Str} {a : Addr} : K.mg f = some (.ref a) → RV K G ι (.fn f) (.ref a)
inductive RVs (K : Wr) (G : Hp) (ι : List Addr) : List PV → List V → Prop
  | nil : RVs K G ι [] []
  | cons {x : PV} {v : V} {xs : List PV} {vs : List V} : RV K G ι x v → RVs K G ι xs vs → RVs K G ι (x :: xs) (v :: vs)
end

theorem Same.seqT {K : PySem.W.Frag} {H H' : Hp} {a : Addr} {xs : List V} (e : Same H H') (h : SqT K H a xs) : SqT K H' a xs := by
  rcases h with (h | ⟨o, h⟩) | h
  · exact .inl (.inl (e _ _ h))
  · exact .inl (.inr ⟨o, e _ _ h⟩)
  · exact .inr h

/-- what stood stands; a dict may have been locked -/
def Up (G G' : Hp) : Prop := ∀ b u, G b = some u → G' b = some u ∨ ((∃ kvs, u = .dK kvs) ∧ ∃ o, G' b = some (.frz o u))
theorem Same.up {G G' : Hp} (h : Same G G') : Up G G' := fun b u e => .inl (h b u e)
theorem Up.refl (G : Hp) : Up G G := fun _ _ e => .inl e
theorem Up.trans {A B C : Hp} (h : Up A B) (h' : Up B C) : Up A C := fun b u e => by
  rcases h b u e with q | ⟨⟨kvs, rfl⟩, o, q⟩
  · exact h' b u q
  · rcases h' b _ q with q' | ⟨⟨_, z⟩, _⟩
    · exact .inr ⟨⟨kvs, rfl⟩, o, q'⟩
    · cases z
theorem Up.exact {G G' : Hp} (h : Up G G') {a : Addr} {u : HO} (e : G a = some u) (k : ∀ kvs, u ≠ .dK kvs) : G' a = some u := (h a u e).resolve_right fun ⟨⟨kvs, z⟩, _⟩ => k kvs z
theorem Up.rd {G G' : Hp} (h : Up G G') {a : Addr} {u : HO} (e : Rd G a u) : Rd G' a u := by
  rcases e with e | ⟨o, e⟩
  · rcases h a u e with q | ⟨_, o, q⟩
    · exact .inl q
    · exact .inr ⟨o, q⟩
  · exact .inr ⟨o, h.exact e fun _ z => nomatch z⟩
theorem Up.seqN {K : PySem.W.Frag} {H H' : Hp} {a : Addr} {xs : List V} (e : Up H H') (h : SqN K H a xs) : SqN K H' a xs := by
  rcases h with ⟨o, h, d⟩ | h
  · exact .inl ⟨o, e.exact h (fun _ z => nomatch z), d⟩
  · exact .inr h
theorem Up.seqT {K : PySem.W.Frag} {H H' : Hp} {a : Addr} {xs : List V} (e : Up H H') (h : SqT K H a xs) : SqT K H' a xs := by
  rcases h with (h | ⟨o, h⟩) | h
  · exact .inl (.inl (e.exact h fun _ z => nomatch z))
  · exact .inl (.inr ⟨o, e.exact h fun _ z => nomatch z⟩)
  · exact .inr h

/-- the numbers of before stand for the same -/
def Pre (ι ι' : List Addr) : Prop := ∀ (n : Nat) (a : Addr), ι[n]? = some a → ι'[n]? = some a
theorem Pre.refl (ι : List Addr) : Pre ι ι := fun _ _ h => h
theorem Pre.trans {a b c : List Addr} (h : Pre a b) (h' : Pre b c) : Pre a c := fun n x e => h' n x (h n x e)
theorem Pre.append (ι l : List Addr) : Pre ι (ι ++ l) := fun n a h => by
  have hn : n < ι.length := (List.getElem?_eq_some_iff.mp h).1
  rw [List.getElem?_append_left hn]; exact h

section
variable {K : Wr} {G G' : Hp} {ι ι' : List Addr}
mutual
theorem RV.mono (hs : Up G G') (hp : Pre ι ι') : ∀ {x : PV} {v : V}, RV K G ι x v → RV K G' ι' x v
  | _, _, .non => .non
  | _, _, .bl b => .bl b
  | _, _, .int i => .int i
  | _, _, .str x => .str x
  | _, _, .tup h r => .tup (hs.seqN h) (RVs.mono hs hp r)
  | _, _, .lst h r => .lst (hs.rd h) (RVs.mono hs hp r)
  | _, _, .dic h e r => .dic (hs.rd h) e (RVs.mono hs hp r)
  | _, _, .ref h => .ref (hp _ _ h)
  | _, _, .exn e h1 h2 r => .exn e (hs.exact h1 fun _ z => nomatch z) (hs.exact h2 fun _ z => nomatch z) (RV.mono hs hp r)
  | _, _, .fn e => .fn e
theorem RVs.mono (hs : Up G G') (hp : Pre ι ι') : ∀ {xs : List PV} {vs : List V}, RVs K G ι xs vs → RVs K G' ι' xs vs
  | _, _, .nil => .nil
  | _, _, .cons r t => .cons (RV.mono hs hp r) (RVs.mono hs hp t)
end
theorem RVs.length : ∀ {xs : List PV} {vs : List V}, RVs K G ι xs vs → xs.length = vs.length
  | _, _, .nil => rfl
  | _, _, .cons _ t => congrArg (· + 1) (RVs.length t)
theorem RVs.get : ∀ {xs : List PV} {vs : List V} {i : Nat} {x : PV}, RVs K G ι xs vs → xs[i]? = some x → ∃ v, vs[i]? = some v ∧ RV K G ι x v
  | _, _, _, _, .nil, e => by simp at e
  | _, _, 0, _, .cons r _, e => by simp at e; subst e; exact ⟨_, rfl, r⟩
  | _, _, i + 1, x, .cons _ t, e => by
    obtain ⟨v, h1, h2⟩ := RVs.get (i := i) (x := x) t (by simpa using e)
    exact ⟨v, by simpa using h1, h2⟩
theorem RVs.get' : ∀ {xs : List PV} {vs : List V} {i : Nat} {v : V}, RVs K G ι xs vs → vs[i]? = some v → ∃ x, xs[i]? = some x ∧ RV K G ι x v
  | _, _, _, _, .nil, e => by simp at e
  | _, _, 0, _, .cons r _, e => by simp at e; subst e; exact ⟨_, rfl, r⟩
  | _, _, i + 1, x, .cons _ t, e => by
    obtain ⟨v, h1, h2⟩ := RVs.get' (i := i) (v := x) t (by simpa using e)
    exact ⟨v, by simpa using h1, h2⟩
theorem RVs.append : ∀ {xs ys : List PV} {vs ws : List V}, RVs K G ι xs vs → RVs K G ι ys ws → RVs K G ι (xs ++ ys) (vs ++ ws)
  | _, _, _, _, .nil, s => s
  | _, _, _, _, .cons r t, s => .cons r (RVs.append t s)
theorem RVs.take : ∀ {xs : List PV} {vs : List V} (n : Nat), RVs K G ι xs vs → RVs K G ι (xs.take n) (vs.take n)
  | _, _, 0, _ => .nil
  | _, _, _ + 1, .nil => .nil
  | _, _, n + 1, .cons r t => .cons r (RVs.take n t)
theorem RVs.drop : ∀ {xs : List PV} {vs : List V} (n : Nat), RVs K G ι xs vs → RVs K G ι (xs.drop n) (vs.drop n)
  | _, _, 0, r => r
  | _, _, _ + 1, .nil => .nil
  | _, _, n + 1, .cons _ t => RVs.drop n t
theorem RVs.set {x : PV} {v : V} (r : RV K G ι x v) : ∀ {xs : List PV} {vs : List V} (i : Nat), RVs K G ι xs vs → RVs K G ι (xs.set i x) (vs.set i v)
  | _, _, _, .nil => .nil
  | _, _, 0, .cons _ t => .cons r t
  | _, _, i + 1, .cons q t => .cons q (RVs.set r i t)
theorem RVs.reverse : ∀ {xs : List PV} {vs : List V}, RVs K G ι xs vs → RVs K G ι xs.reverse vs.reverse
  | _, _, .nil => .nil
  | _, _, .cons r t => by
    rw [List.reverse_cons, List.reverse_cons]
    exact (RVs.reverse t).append (.cons r .nil)
theorem RVs.eraseIdx : ∀ {xs : List PV} {vs : List V} (i : Nat), RVs K G ι xs vs → RVs K G ι (xs.eraseIdx i) (vs.eraseIdx i)
  | _, _, _, .nil => .nil
  | _, _, 0, .cons _ t => t
  | _, _, i + 1, .cons r t => .cons r (RVs.eraseIdx i t)
theorem RVs.rep {xs : List PV} {vs : List V} (h : RVs K G ι xs vs) : ∀ k : Nat, RVs K G ι (List.replicate k xs).flatten (List.replicate k vs).flatten
  | 0 => .nil
  | k + 1 => by
    rw [List.replicate_succ, List.replicate_succ, List.flatten_cons, List.flatten_cons]
    exact h.append (RVs.rep h k)
/-- a value's shape tells that of the layer's -/
theorem RV.int_inv {i : Int} {v : V} (r : RV K G ι (.int i) v) : v = .int i := by cases r; rfl
theorem RV.bl_inv {b : Bool} {v : V} (r : RV K G ι (.bl b) v) : v = .bl b := by cases r; rfl
theorem RV.str_inv {x : Str} {v : V} (r : RV K G ι (.str x) v) : v = .str x := by cases r; rfl
theorem RV.non_inv {v : V} (r : RV K G ι .non v) : v = .non := by cases r; rfl
theorem RV.tup_inv {xs : List PV} {v : V} (r : RV K G ι (.tup xs) v) : ∃ a vs, v = .ref a ∧ SqN K.K G a vs ∧ RVs K G ι xs vs := by
  cases r with
  | tup h t => exact ⟨_, _, rfl, h, t⟩
theorem RV.lst_inv {xs : List PV} {v : V} (r : RV K G ι (.lst xs) v) : ∃ a vs, v = .ref a ∧ Rd G a (.lst vs) ∧ RVs K G ι xs vs := by
  cases r with
  | lst h t => exact ⟨_, _, rfl, h, t⟩
theorem RV.ref_inv {n : Nat} {v : V} (r : RV K G ι (.ref n) v) : ∃ a, v = .ref a ∧ ι[n]? = some a := by
  cases r with
  | ref h => exact ⟨_, rfl, h⟩
theorem RVs.nil_inv {vs : List V} (r : RVs K G ι [] vs) : vs = [] := by cases r; rfl
theorem RVs.cons_inv {x : PV} {xs : List PV} {vs : List V} (r : RVs K G ι (x :: xs) vs) : ∃ v ws, vs = v :: ws ∧ RV K G ι x v ∧ RVs K G ι xs ws := by
  cases r with
  | cons h t => exact ⟨_, _, rfl, h, t⟩
end

/-- the attributes -/
def RF (K : Wr) (G : Hp) (ι : List Addr) (fs : List (Str × PV)) (gs : List (Str × V)) : Prop :=
  ∀ f, match fs.lookup f, gs.lookup f with
    | some x, some v => RV K G ι x v
    | none, none => True
    | _, _ => False

/-- what changes, as it stands in the layer's heap -/
inductive RO (K : Wr) (G : Hp) (ι : List Addr) : MO → Option HO → Prop
  | lst {xs : List PV} {vs : List V} : RVs K G ι xs vs → RO K G ι (.lst xs) (some (.lst vs))
  | dic {ps : List (Key × PV)} {kvs : List (Key × V)} : ps.map (·.1) = kvs.map (·.1) → RVs K G ι (ps.map (·.2)) (kvs.map (·.2)) → RO K G ι (.dic ps) (some (.dK kvs))
  | fdic {ps : List (Key × PV)} {kvs : List (Key × V)} {od : Obj} : ps.map (·.1) = kvs.map (·.1) → RVs K G ι (ps.map (·.2)) (kvs.map (·.2)) → RO K G ι (.fdic ps) (some (.frz od (.dK kvs)))
  | ins {c : Str} {fs : List (Str × PV)} {C dx : Addr} {gs : List (Str × V)} : K.mg c = some (.ref C) → (fs.map (·.1)).Nodup → RF K G ι fs gs → RO K G ι (.ins c fs) (some (.ins C dx gs))

theorem RF.mono {K : Wr} {G G' : Hp} {ι ι' : List Addr} {fs : List (Str × PV)} {gs : List (Str × V)} (hs : Up G G') (hp : Pre ι ι') (h : RF K G ι fs gs) : RF K G' ι' fs gs := fun f => by
  have q := h f
  cases e1 : fs.lookup f with
  | none => cases e2 : gs.lookup f with
    | none => trivial
    | some v => rw [e1, e2] at q; exact q.elim
  | some x => cases e2 : gs.lookup f with
    | none => rw [e1, e2] at q; exact q.elim
    | some v => rw [e1, e2] at q; exact RV.mono hs hp q
theorem RO.mono {K : Wr} {G G' : Hp} {ι ι' : List Addr} {o : MO} {u : Option HO} (hs : Up G G') (hp : Pre ι ι') (h : RO K G ι o u) : RO K G' ι' o u := by
  cases h with
  | lst r => exact .lst (r.mono hs hp)
  | dic e r => exact .dic e (r.mono hs hp)
  | fdic e r => exact .fdic e (r.mono hs hp)
  | ins e nd r => exact .ins e nd (r.mono hs hp)

/-- the whole: Z what is being made, G what no longer changes, ι where the changing things stand -/
structure HR (K : Wr) (Z : List Addr) (G : Hp) (ι : List Addr) (h : MH) (H : Hp) : Prop where
  sub : Same G H
  len : ι.length = h.length
  nd : ι.Nodup
  out : ∀ a ∈ ι, ∀ u, G a = some u → ∃ o w, u = .frz o w
  obj : ∀ (n : Nat) (a : Addr) (o : MO), ι[n]? = some a → h[n]? = some o → RO K G ι o (H a)
  zz : ∀ z ∈ Z, G z = none ∧ z ∉ ι ∧ ∃ u, H z = some u

/-- the slots -/
def SR (K : Wr) (G : Hp) (ι : List Addr) (ρ : List (Option PV)) (σ : L2.St) : Prop :=
  ρ.length = σ.length ∧ ∀ (i : Nat) (x : PV), ρ[i]? = some (some x) → ∃ v, σ[i]? = some (some v) ∧ RV K G ι x v
theorem SR.mono {K : Wr} {G G' : Hp} {ι ι' : List Addr} {ρ : List (Option PV)} {σ : L2.St} (hs : Up G G') (hp : Pre ι ι') (h : SR K G ι ρ σ) : SR K G' ι' ρ σ :=
  ⟨h.1, fun i x e => let ⟨v, e1, r⟩ := h.2 i x e; ⟨v, e1, r.mono hs hp⟩⟩

section
variable {K : Wr} {Z : List Addr} {G : Hp} {ι : List Addr} {h : MH} {H : Hp}
theorem same_upd {G : Hp} {p : Addr} {o : HO} (e : G p = none) : Up G (upd G p o) := fun b u q => .inl (by
  rw [upd_ne (ne_of_none q e)]; exact q)
theorem HR.gnone (R : HR K Z G ι h H) {p : Addr} (hp : H p = none) : G p = none := R.sub.free hp
theorem RO.some {o : MO} {u : Option HO} (r : RO K G ι o u) : ∃ w, u = some w := by
  cases r with
  | lst _ => exact ⟨_, rfl⟩
  | dic _ _ => exact ⟨_, rfl⟩
  | fdic _ _ => exact ⟨_, rfl⟩
  | ins _ _ _ => exact ⟨_, rfl⟩
theorem HR.at (R : HR K Z G ι h H) {n : Nat} {a : Addr} (e : ι[n]? = some a) : ∃ o, h[n]? = some o ∧ RO K G ι o (H a) := by
  have hn : n < ι.length := (List.getElem?_eq_some_iff.mp e).1
  have hn' : n < h.length := by rw [← R.len]; exact hn
  exact ⟨h[n], List.getElem?_eq_getElem hn', R.obj n a _ e (List.getElem?_eq_getElem hn')⟩
theorem HR.there (R : HR K Z G ι h H) {a : Addr} (ha : a ∈ ι) : ∃ u, H a = some u := by
  obtain ⟨n, hn, e⟩ := List.mem_iff_getElem.mp ha
  obtain ⟨o, _, r⟩ := R.at (n := n) (a := a) (by rw [List.getElem?_eq_getElem hn, e])
  exact r.some
theorem HR.fresh (R : HR K Z G ι h H) {p : Addr} (hp : H p = none) : p ∉ ι := fun q => by
  obtain ⟨u, e⟩ := R.there q
  rw [hp] at e; cases e
theorem HR.freshZ (R : HR K Z G ι h H) {p : Addr} (hp : H p = none) : p ∉ Z := fun q => by
  obtain ⟨_, _, u, e⟩ := R.zz p q
  rw [hp] at e; cases e
/-- a new thing that no longer changes -/
theorem HR.laid {p : Addr} {o : HO} (R : HR K Z G ι h H) (hp : H p = none) : HR K Z (upd G p o) ι h (upd H p o) := by
  have gp := R.gnone hp
  have np := R.fresh hp
  refine ⟨fun b u q => ?_, R.len, R.nd, fun a ha => ?_, fun n a ob e1 e2 => ?_, fun z hz => ?_⟩
  · by_cases hb : b = p
    · subst hb; rw [upd_same] at q ⊢; exact q
    · rw [upd_ne hb] at q ⊢; exact R.sub b u q
  · have : a ≠ p := fun e => np (e ▸ ha)
    rw [upd_ne this]; exact R.out a ha
  · have : a ≠ p := fun e => np (e ▸ List.mem_of_getElem? e1)
    rw [upd_ne this]
    exact (R.obj n a ob e1 e2).mono (same_upd gp) (Pre.refl _)
  · obtain ⟨z1, z2, u, z3⟩ := R.zz z hz
    have : z ≠ p := fun e => R.freshZ hp (e ▸ hz)
    rw [upd_ne this, upd_ne this]
    exact ⟨z1, z2, u, z3⟩
/-- a new thing that changes -/
theorem HR.alloc {p : Addr} {o : HO} {m : MO} (R : HR K Z G ι h H) (hp : H p = none) (ro : RO K G (ι ++ [p]) m (some o)) : HR K Z G (ι ++ [p]) (h ++ [m]) (upd H p o) := by
  have gp := R.gnone hp
  have np := R.fresh hp
  refine ⟨fun b u q => ?_, by simp [R.len], ?_, fun a ha => ?_, fun n a ob e1 e2 => ?_, fun z hz => ?_⟩
  · rw [upd_ne (ne_of_none q gp)]; exact R.sub b u q
  · rw [List.nodup_append]
    refine ⟨R.nd, by simp, fun a ha b hb => ?_⟩
    have : b = p := by simpa using hb
    subst this
    exact fun e => np (e ▸ ha)
  · rcases List.mem_append.mp ha with ha | ha
    · exact R.out a ha
    · have : a = p := by simpa using ha
      subst this
      intro u q
      rw [gp] at q; cases q
  · by_cases hn : n < ι.length
    · rw [List.getElem?_append_left hn] at e1
      rw [List.getElem?_append_left (by rw [← R.len]; exact hn)] at e2
      have : a ≠ p := fun e => np (e ▸ List.mem_of_getElem? e1)
      rw [upd_ne this]
      exact (R.obj n a ob e1 e2).mono (Up.refl _) (Pre.append _ _)
    · have hn' : n = ι.length := by
        have := (List.getElem?_eq_some_iff.mp e1).1
        rw [List.length_append, List.length_singleton] at this
        omega
      subst hn'
      have e1' : p = a := by simpa using e1
      have e2' : m = ob := by
        rw [R.len] at e2
        simpa using e2
      subst e1' e2'
      rw [upd_same]; exact ro
  · obtain ⟨z1, z2, u, z3⟩ := R.zz z hz
    have hzp : z ≠ p := fun e => R.freshZ hp (e ▸ hz)
    rw [upd_ne hzp]
    refine ⟨z1, fun q => ?_, u, z3⟩
    rcases List.mem_append.mp q with q | q
    · exact z2 q
    · exact hzp (by simpa using q)
/-- a changing thing changes -/
theorem HR.put {n : Nat} {a : Addr} {o : HO} {m : MO} (R : HR K Z G ι h H) (e : ι[n]? = some a) (hm : ∀ o w, H a ≠ some (.frz o w)) (ro : RO K G ι m (some o)) : HR K Z G ι (h.set n m) (upd H a o) := by
  have ha : a ∈ ι := List.mem_of_getElem? e
  have ga : G a = none := by
    cases q : G a with
    | none => rfl
    | some u =>
      obtain ⟨od, w, rfl⟩ := R.out a ha u q
      exact absurd (R.sub _ _ q) (hm od w)
  refine ⟨fun b u q => ?_, by simp [R.len], R.nd, R.out, fun k b ob e1 e2 => ?_, fun z hz => ?_⟩
  · rw [upd_ne (ne_of_none q ga)]; exact R.sub b u q
  · by_cases hk : k = n
    · subst hk
      rw [e] at e1; cases e1
      have hl : k < h.length := by rw [← R.len]; exact (List.getElem?_eq_some_iff.mp e).1
      rw [List.getElem?_set_self hl] at e2; cases e2
      rw [upd_same]; exact ro
    · rw [List.getElem?_set_ne (Ne.symm hk)] at e2
      have : b ≠ a := fun q => by
        subst q
        obtain ⟨h1, q1⟩ := List.getElem?_eq_some_iff.mp e
        obtain ⟨h2, q2⟩ := List.getElem?_eq_some_iff.mp e1
        exact hk ((List.getElem_inj R.nd).mp (q2.trans q1.symm))
      rw [upd_ne this]
      exact R.obj k b ob e1 e2
  · obtain ⟨z1, z2, u, z3⟩ := R.zz z hz
    have : z ≠ a := fun q => z2 (q ▸ ha)
    rw [upd_ne this]
    exact ⟨z1, z2, u, z3⟩
end

/-! ### what a def leaves behind -/
mutual
/-- all numbers in a value are below n -/
def below (n : Nat) : PV → Prop
  | .non => True
  | .bl _ => True
  | .int _ => True
  | .str _ => True
  | .tup xs => belows n xs
  | .lst xs => belows n xs
  | .dic ks xs => belows n xs
  | .ref k => k < n
  | .exn _ v => below n v
  | .fn _ => True
def belows (n : Nat) : List PV → Prop
  | [] => True
  | x :: xs => below n x ∧ belows n xs
end
def belowO (n : Nat) : MO → Prop
  | .lst xs => belows n xs
  | .dic ps => belows n (ps.map (·.2))
  | .fdic ps => belows n (ps.map (·.2))
  | .ins _ fs => belows n (fs.map (·.2))
/-- what was there has no new things in it -/
def tidy (h0 h' : MH) : Prop := ∀ (n : Nat) (o : MO), n < h0.length → h'[n]? = some o → h0[n]? = some o ∨ belowO h0.length o
def thaw (n0 : Nat) (h : MH) : PV → PV
  | .ref n => if n < n0 then .ref n else match h[n]? with
    | some (.lst xs) => .lst xs
    | some (.dic ps) => .dic (ps.map (·.1)) (ps.map (·.2))
    | some (.fdic ps) => .dic (ps.map (·.1)) (ps.map (·.2))
    | _ => .ref n
  | v => v
open Classical in
/-- behind a def: its new things are dropped, a new list that it tells no longer changes -/
noncomputable def leave (h0 : MH) (v : PV) (h' : MH) : PV × MH :=
  if below h0.length (thaw h0.length h' v) ∧ tidy h0 h' ∧ h0.length ≤ h'.length then (thaw h0.length h' v, h'.take h0.length) else (v, h')

section
variable {K : Wr} {Z : List Addr} {G G' : Hp} {ι ι' : List Addr} {h h' : MH} {H H' : Hp}
mutual
theorem RV.bel {n : Nat} (hn : ι.length ≤ n) : ∀ {x : PV} {v : V}, RV K G ι x v → below n x
  | _, _, .non => trivial
  | _, _, .bl _ => trivial
  | _, _, .int _ => trivial
  | _, _, .str _ => trivial
  | _, _, .tup _ r => RVs.bels hn r
  | _, _, .lst _ r => RVs.bels hn r
  | _, _, .dic _ _ r => RVs.bels hn r
  | _, _, .ref h => Nat.lt_of_lt_of_le (List.getElem?_eq_some_iff.mp h).1 hn
  | _, _, .exn (x := x) _ _ _ r => (show below n x from RV.bel hn r)
  | _, _, .fn _ => trivial
theorem RVs.bels {n : Nat} (hn : ι.length ≤ n) : ∀ {xs : List PV} {vs : List V}, RVs K G ι xs vs → belows n xs
  | _, _, .nil => trivial
  | _, _, .cons r t => ⟨RV.bel hn r, RVs.bels hn t⟩
end
theorem belows_mem {n : Nat} : ∀ {xs : List PV}, (∀ x ∈ xs, below n x) → belows n xs
  | [], _ => trivial
  | x :: xs, h => ⟨h x List.mem_cons_self, belows_mem fun y hy => h y (List.mem_cons_of_mem _ hy)⟩
theorem belows_of {n : Nat} : ∀ {xs : List PV}, belows n xs → ∀ x ∈ xs, below n x
  | x :: xs, h, y, hy => by
    rcases List.mem_cons.mp hy with rfl | hy
    · exact h.1
    · exact belows_of h.2 y hy
theorem lookup_of_mem_nodup {f : Str} : ∀ {fs : List (Str × PV)} {x : PV}, fs.lookup f = some x → (f, x) ∈ fs
  | (g, y) :: fs, x, h => by
    rw [List.lookup_cons] at h
    cases hb : f == g with
    | true => rw [hb] at h; cases h; rw [beq_iff_eq.mp hb]; exact List.mem_cons_self
    | false => rw [hb] at h; exact List.mem_cons_of_mem _ (lookup_of_mem_nodup h)
mutual
theorem RV.cut {n : Nat} (hs : Up G G') : ∀ {x : PV} {v : V}, RV K G ι x v → below n x → RV K G' (ι.take n) x v
  | _, _, .non, _ => .non
  | _, _, .bl b, _ => .bl b
  | _, _, .int i, _ => .int i
  | _, _, .str x, _ => .str x
  | _, _, .tup h r, q => .tup (hs.seqN h) (RVs.cut hs r q)
  | _, _, .lst h r, q => .lst (hs.rd h) (RVs.cut hs r q)
  | _, _, .dic h e r, q => .dic (hs.rd h) e (RVs.cut hs r q)
  | _, _, .ref h, q => .ref (by rw [List.getElem?_take_of_lt q]; exact h)
  | _, _, .exn (x := x) e h1 h2 r, q => .exn e (hs.exact h1 fun _ z => nomatch z) (hs.exact h2 fun _ z => nomatch z) (RV.cut hs r (show below n x from q))
  | _, _, .fn e, _ => .fn e
theorem RVs.cut {n : Nat} (hs : Up G G') : ∀ {xs : List PV} {vs : List V}, RVs K G ι xs vs → belows n xs → RVs K G' (ι.take n) xs vs
  | _, _, .nil, _ => .nil
  | _, _, .cons r t, q => .cons (RV.cut hs r q.1) (RVs.cut hs t q.2)
end
theorem RF.cut {n : Nat} (hs : Up G G') {fs : List (Str × PV)} {gs : List (Str × V)} (r : RF K G ι fs gs) (q : belows n (fs.map (·.2))) : RF K G' (ι.take n) fs gs := fun f => by
  have z := r f
  cases e1 : fs.lookup f with
  | none => cases e2 : gs.lookup f with
    | none => trivial
    | some v => rw [e1, e2] at z; exact z.elim
  | some x => cases e2 : gs.lookup f with
    | none => rw [e1, e2] at z; exact z.elim
    | some v =>
      rw [e1, e2] at z
      exact RV.cut hs z (belows_of q x (List.mem_map.mpr ⟨(f, x), lookup_of_mem_nodup e1, rfl⟩))
theorem RO.cut {n : Nat} (hs : Up G G') {o : MO} {u : Option HO} (r : RO K G ι o u) (q : belowO n o) : RO K G' (ι.take n) o u := by
  cases r with
  | lst r => exact .lst (r.cut hs q)
  | dic e r => exact .dic e (r.cut hs q)
  | fdic e r => exact .fdic e (r.cut hs q)
  | ins e nd r => exact .ins e nd (r.cut hs q)
theorem RF.bels {n : Nat} (hn : ι.length ≤ n) : ∀ {fs : List (Str × PV)} {gs : List (Str × V)}, (fs.map (·.1)).Nodup → RF K G ι fs gs → belows n (fs.map (·.2)) := fun {fs gs} nd r => by
  refine belows_mem fun x hx => ?_
  obtain ⟨⟨f, y⟩, hy, rfl⟩ := List.mem_map.mp hx
  have e : fs.lookup f = some y := by
    clear hx r
    induction fs with
    | nil => simp at hy
    | cons p fs ih =>
      obtain ⟨g, z⟩ := p
      rw [List.lookup_cons]
      rw [List.map_cons, List.nodup_cons] at nd
      rcases List.mem_cons.mp hy with e | hy2
      · cases e; simp
      · have : (f == g) = false := by
          refine beq_eq_false_iff_ne.mpr fun e => ?_
          subst e
          exact nd.1 (List.mem_map.mpr ⟨(f, y), hy2, rfl⟩)
        rw [this]
        exact ih nd.2 hy2
  have z := r f
  rw [e] at z
  cases e2 : gs.lookup f with
  | none => rw [e2] at z; exact z.elim
  | some v => rw [e2] at z; exact RV.bel hn z
theorem RO.bel {n : Nat} (hn : ι.length ≤ n) {o : MO} {u : Option HO} (r : RO K G ι o u) : belowO n o := by
  cases r with
  | lst r => exact r.bels hn
  | dic e r => exact r.bels hn
  | fdic e r => exact r.bels hn
  | ins e nd r => exact RF.bels hn nd r
theorem pre_take {ι ι' : List Addr} (hp : Pre ι ι') (hl : ι.length ≤ ι'.length) : ι'.take ι.length = ι := by
  apply List.ext_getElem?
  intro i
  by_cases hi : i < ι.length
  · rw [List.getElem?_take_of_lt hi]
    exact hp i _ (List.getElem?_eq_getElem hi) |>.trans (List.getElem?_eq_getElem hi).symm
  · rw [List.getElem?_eq_none (by rw [List.length_take]; omega), List.getElem?_eq_none (by omega)]
open Classical in
/-- what stands behind a def, its new things no longer changing -/
noncomputable def gone (G' : Hp) (l : List Addr) (H' : Hp) : Hp := fun b => if b ∈ l then H' b else G' b
/-- the new things of a def are dropped -/
theorem HR.cutTo (R0 : HR K Z G ι h H) (R : HR K Z G' ι' h' H') (hp : Pre ι ι') (ht : tidy h h') (hl : h.length ≤ h'.length) :
    ∃ G'', Up G' G'' ∧ ι'.take h.length = ι ∧ HR K Z G'' ι (h'.take h.length) H' ∧ ∀ a ∈ ι'.drop ι.length, G'' a = H' a := by
  classical
  have hl' : ι.length ≤ ι'.length := by rw [R0.len, R.len]; exact hl
  have et : ι'.take ι.length = ι := pre_take hp hl'
  have et' : ι'.take h.length = ι := by rw [← R0.len]; exact et
  have hd : ∀ a ∈ ι'.drop ι.length, a ∈ ι' ∧ a ∉ ι := fun a ha => by
    refine ⟨List.mem_of_mem_drop ha, fun q => ?_⟩
    have nd' := R.nd
    rw [← List.take_append_drop ι.length ι', et] at nd'
    exact (List.nodup_append.mp nd').2.2 a q a ha rfl
  have hs : Up G' (gone G' (ι'.drop ι.length) H') := fun b u q => .inl (by
    unfold gone
    by_cases hb : b ∈ ι'.drop ι.length
    · rw [if_pos hb]; exact R.sub _ _ q
    · rw [if_neg hb]; exact q)
  refine ⟨gone G' (ι'.drop ι.length) H', hs, et', ⟨fun b u q => ?_, by rw [List.length_take, Nat.min_eq_left hl, R0.len], R0.nd, fun a ha => ?_, fun n a o e1 e2 => ?_, fun z hz => ?_⟩, fun a ha => if_pos ha⟩
  · unfold gone at q
    by_cases hb : b ∈ ι'.drop ι.length
    · rw [if_pos hb] at q; exact q
    · rw [if_neg hb] at q; exact R.sub b u q
  · unfold gone
    have : a ∉ ι'.drop ι.length := fun q => (hd a q).2 ha
    rw [if_neg this]
    obtain ⟨n, hn, e⟩ := List.mem_iff_getElem.mp ha
    exact R.out a (List.mem_of_getElem? (hp n a (by rw [List.getElem?_eq_getElem hn, e])))
  · have hn : n < ι.length := (List.getElem?_eq_some_iff.mp e1).1
    have hn' : n < h.length := by rw [← R0.len]; exact hn
    rw [List.getElem?_take_of_lt hn'] at e2
    have ro := R.obj n a o (hp n a e1) e2
    have hb : belowO h.length o := by
      rcases ht n o hn' e2 with q | q
      · have r0 := R0.obj n a o e1 q
        exact r0.bel (by rw [R0.len]; exact Nat.le_refl _)
      · exact q
    have := ro.cut hs hb
    rwa [et'] at this
  · obtain ⟨z1, z2, z3⟩ := R.zz z hz
    unfold gone
    have : z ∉ ι'.drop ι.length := fun q => z2 (hd z q).1
    rw [if_neg this]
    refine ⟨z1, fun q => ?_, z3⟩
    obtain ⟨n, hn, e⟩ := List.mem_iff_getElem.mp q
    exact z2 (List.mem_of_getElem? (hp n z (by rw [List.getElem?_eq_getElem hn, e])))
end
end Mx

end

section
set_option Elab.async false
set_option linter.all false
set_option maxRecDepth 100000
set_option maxHeartbeats 2000000
/-! The small language: its syntax, what it does. -/
namespace Mx
open PySem PySem.Spec PyProof.Rows L2

inductive Bo where
  | add | sub | mul | fdiv | mod | pow
  deriving DecidableEq
inductive Co where
  | eq | ne | lt | le | gt | ge | isN | isntN | isB | isntB | inn | nin
  deriving DecidableEq
/-- built-in functions and types that are called -/
inductive Bi where
  | len | abs | min | max | int | tuple | list | any | all | gcd | sorted | dict | sum | min1 | max1
  deriving DecidableEq
/-- methods of built-in types -/
inductive Mt where
  | append | extend | pop | insert | index | reverse | clear | get | join | upper
  deriving DecidableEq

mutual
inductive Ae where
  | v (i : Nat)
  | non | bl (b : Bool) | int (i : Int) | str (x : Str)
  | con (x : Str)
  | tup (es : Aes)
  | lst (r : Bool) (es : Aes)
  | bin (op : Bo) (r : Bool) (a b : Ae)
  | neg (a : Ae)
  | not (a : Ae)
  | cmp (op : Co) (a b : Ae)
  | chain (op op' : Co) (a b c : Ae)
  | and (es : Aes)
  | or (es : Aes)
  | ifx (c a b : Ae)
  | ix (a i : Ae)
  | sl (r : Bool) (a : Ae) (lo hi : Ao)
  | call (f : Str) (es : Aes) (ks : List Str) (kes : Aes)
  | blt (f : Bi) (r : Bool) (es : Aes)
  | isi (a : Ae) (ts : List String)
  | met (m : Mt) (r : Bool) (o : Ae) (es : Aes)
  | tupS (es : Aes)
  | lstS (r : Bool) (es : Aes)
  | rev (r : Bool) (a : Ae)
  | dnew (ps : Aps)
  | dzip (a b : Ae)
  | fnv (f : Str)
  | calv (i : Nat) (es : Aes)
  | comp (r : Bool) (elt : Ae) (g : Ag) (it : Ai) (ifs : Ao) (own : List (Str × Nat))
  | val (i : Nat)
inductive Aes where
  | nil
  | cons (e : Ae) (es : Aes)
  | star (e : Ae) (es : Aes)
inductive Aps where
  | nil
  | cons (k v : Ae) (ps : Aps)
inductive Ao where
  | none
  | some (e : Ae)
inductive Ai where
  | ex (e : Ae)
  | range1 (e : Ae)
  | range2 (a b : Ae)
  | range3 (a b c : Ae)
  | zip2 (a b : Ae)
  | zip3 (a b c : Ae)
  | enum (a : Ae)
  | rev (a : Ae)
inductive Ag where
  | nm (i : Nat)
  | tp (gs : Ags)
inductive Ags where
  | nil
  | cons (g : Ag) (gs : Ags)
end
mutual
inductive As where
  | ex (e : Ae)
  | set (g : Ag) (e : Ae)
  | put (o i e : Ae)
  | aug (i : Nat) (op : Bo) (e : Ae)
  | augs (o i : Ae) (op : Bo) (e : Ae)
  | ite (c : Ae) (a b : Ass)
  | whl (c : Ae) (b : Ass)
  | for (g : Ag) (it : Ai) (b : Ass)
  | ret (e : Ae)
  | retN
  | rais (c : Str) (e : Ae) (kw : Bool)
  | try (b : Ass) (hs : Ahs)
  | brk | cnt | pas
inductive Ass where
  | nil
  | cons (s : As) (ss : Ass)
inductive Ahs where
  | nil
  | cons (c : Str) (n : Option Nat) (b : Ass) (hs : Ahs)
end

def Aes.len : Aes → Nat
  | .nil => 0
  | .cons _ es => es.len + 1
  | .star _ es => es.len + 1
def Aps.len : Aps → Nat
  | .nil => 0
  | .cons _ _ ps => ps.len + 1
/-- a def: how many parameters, how many names, the body -/
structure Fn where
  ns : Nat
  ps : List Str
  body : Ass
  kp : Bool := false
/-- a program: its defs, its constants, which class is below which -/
structure Pg where
  fns : Str → Option Fn
  con : Str → Option PV
  exc : List Str

/-! ### what runs hand on -/
def Res.bind {α β : Type} : Res α → (α → MH → Res β) → Res β
  | .ok a h, f => f a h
  | .exn c v h, _ => .exn c v h
  | .stuck, _ => .stuck
/-- no exception may leave -/
def Res.nox {α : Type} : Res α → Res α
  | .exn _ _ _ => .stuck
  | r => r

/-! ### data -/
mutual
/-- a value without numbers of changing things, as the library's data; rd: what a changing thing is read as -/
def toD (rd : Nat → Option PyData) : PV → Option PyData
  | .non => some .none
  | .bl b => some (.bool b)
  | .int i => some (.int i)
  | .str x => some (.str x)
  | .tup xs => (toDs rd xs).map .tuple
  | .lst xs => (toDs rd xs).map .list
  | .dic _ _ => none
  | .ref n => rd n
  | .exn _ _ => none
  | .fn _ => none
def toDs (rd : Nat → Option PyData) : List PV → Option (List PyData)
  | [] => some []
  | x :: xs => match toD rd x, toDs rd xs with
    | some d, some ds => some (d :: ds)
    | _, _ => none
end
def rd0 (h : MH) (n : Nat) : Option PyData := match h[n]? with
  | some (.lst xs) => (toDs (fun _ => none) xs).map .list
  | _ => none
def rd1 (h : MH) (n : Nat) : Option PyData := match h[n]? with
  | some (.lst xs) => (toDs (rd0 h) xs).map .list
  | _ => none
def flat : PV → Bool
  | .non => true
  | .bl _ => true
  | .int _ => true
  | .str _ => true
  | _ => false
/-- == of values without parts -/
def eqF : PV → PV → Bool
  | .non, .non => true
  | .bl a, .bl b => a == b
  | .bl a, .int b => (if a then 1 else 0) == b
  | .int a, .bl b => a == (if b then 1 else 0)
  | .int a, .int b => a == b
  | .str a, .str b => a == b
  | _, _ => false
/-- two values without parts whose == is told at once -/
def scalP : PV → PV → Bool
  | .non, .non => true | .non, .int _ => true | .int _, .non => true | .non, .bl _ => true | .bl _, .non => true | .non, .str _ => true | .str _, .non => true
  | .int _, .int _ => true | .bl _, .bl _ => true | .str _, .str _ => true
  | .int _, .str _ => true | .str _, .int _ => true | .bl _, .str _ => true | .str _, .bl _ => true
  | _, _ => false
def peqD (h : MH) (a b : PV) : Option Bool := match toD (rd1 h) a, toD (rd1 h) b with
  | some d, some e => if SeqAt.shaped d && SeqAt.shaped e then some (PyData.eqv d e) else none
  | _, _ => none
def peq (h : MH) (a b : PV) : Option Bool := if scalP a b then some (eqF a b) else peqD h a b
/-! ### tables -/
section
variable {α : Type}
def kget (kvs : List (Key × α)) (k : Key) : Option α := (kvs.find? fun p => decide (p.1 = k)).map (·.2)
def kput (kvs : List (Key × α)) (k : Key) (v : α) : List (Key × α) :=
  if (kvs.any fun p => decide (p.1 = k)) = true then kvs.map (fun p => if p.1 = k then (p.1, v) else p) else kvs ++ [(k, v)]
def kdrop (kvs : List (Key × α)) (k : Key) : List (Key × α) := kvs.filter fun p => decide (p.1 ≠ k)
def kmerge (kvs more : List (Key × α)) : List (Key × α) := more.foldl (fun acc p => kput acc p.1 p.2) kvs
end
/-- a key as a value -/
def kP : Key → PV
  | .inl i => .int i
  | .inr x => .str x
def ditems (h : MH) : PV → Option (List (Key × PV))
  | .dic ks xs => some (ks.zip xs)
  | .ref n => match h[n]? with
    | some (.dic kvs) => some kvs
    | some (.fdic kvs) => some kvs
    | _ => none
  | _ => none
/-- pairs whose first parts are keys -/
def pairsOf : List PV → Option (List (Key × PV))
  | [] => some []
  | .tup [k, v] :: xs => match keyOf k, pairsOf xs with
    | some k, some ps => some ((k, v) :: ps)
    | _, _ => none
  | _ :: _ => none
def keysOf : List PV → Option (List Key)
  | [] => some []
  | x :: xs => match keyOf x, keysOf xs with
    | some k, some ks => some (k :: ks)
    | _, _ => none
def intsOf : List PV → Option (List Int)
  | [] => some []
  | .int i :: xs => (intsOf xs).map (i :: ·)
  | _ :: _ => none
def strsOf : List PV → Option (List Str)
  | [] => some []
  | .str i :: xs => (strsOf xs).map (i :: ·)
  | _ :: _ => none
/-- the items of a list or tuple -/
def items (h : MH) : PV → Option (List PV)
  | .tup xs => some xs
  | .lst xs => some xs
  | .ref n => match h[n]? with
    | some (.lst xs) => some xs
    | _ => none
  | _ => none
def truthy (h : MH) : PV → Option Bool
  | .non => some false
  | .bl b => some b
  | .int i => some (i != 0)
  | .str x => if x.length ≤ sizeLine then some (x.length != 0) else none
  | .tup xs => some (!xs.isEmpty)
  | .lst xs => some (!xs.isEmpty)
  | .ref n => match h[n]? with
    | some (.lst xs) => some (!xs.isEmpty)
    | _ => none
  | _ => none
def mkLst (r : Bool) (xs : List PV) (h : MH) : Res PV := if r then .ok (.ref h.length) (h ++ [.lst xs]) else .ok (.lst xs) h
def mkDic (kvs : List (Key × PV)) (h : MH) : Res PV := .ok (.ref h.length) (h ++ [.dic kvs])
/-- bits enough for a product -/
def fits (i j : Int) : Prop := i.natAbs.log2 + j.natAbs.log2 < 1000000
/-- a divisor that is not too long -/
def fitd (j : Int) : Prop := j.natAbs.log2 < 9000

/-- the items of a list -/
def litems (h : MH) : PV → Option (List PV)
  | .lst xs => some xs
  | .ref n => match h[n]? with
    | some (.lst xs) => some xs
    | _ => none
  | _ => none
def addop (r : Bool) : PV → PV → MH → Res PV
  | .int i, .int j, h => .ok (.int (i + j)) h
  | .str x, .str y, h => if x.length + y.length ≤ sizeLine then .ok (.str (x ++ y)) h else .stuck
  | .tup xs, .tup ys, h => if xs.length + ys.length ≤ sizeLine then .ok (.tup (xs ++ ys)) h else .stuck
  | a, b, h => match litems h a, litems h b with
    | some xs, some ys => if xs.length + ys.length ≤ sizeLine then mkLst r (xs ++ ys) h else .stuck
    | _, _ => .stuck
def subop : PV → PV → MH → Res PV
  | .int i, .int j, h => .ok (.int (i - j)) h
  | _, _, _ => .stuck
open Classical in
noncomputable def mulop (r : Bool) : PV → PV → MH → Res PV
  | .int i, .int j, h => if fits i j then .ok (.int (i * j)) h else .stuck
  | a, .int k, h => match litems h a with
    | some xs => if -(2 ^ 63) ≤ k ∧ k < 2 ^ 63 ∧ xs.length * k.toNat ≤ sizeLine then mkLst r (List.replicate k.toNat xs).flatten h else .stuck
    | none => .stuck
  | _, _, _ => .stuck
open Classical in
noncomputable def divop : PV → PV → MH → Res PV
  | .int i, .int j, h => if j ≠ 0 ∧ fitd j then .ok (.int (i.fdiv j)) h else .stuck
  | _, _, _ => .stuck
def modop : PV → PV → MH → Res PV
  | .int i, .int j, h => if j ≠ 0 then .ok (.int (i.fmod j)) h else .stuck
  | _, _, _ => .stuck
def powop : PV → PV → MH → Res PV
  | .int i, .int j, h => if 0 ≤ j ∧ j ≤ 1000000 ∧ i.natAbs < 2 ^ 64 then .ok (.int (i ^ j.toNat)) h else .stuck
  | _, _, _ => .stuck
noncomputable def binop (op : Bo) (r : Bool) (a b : PV) (h : MH) : Res PV := match op with
  | .add => addop r a b h
  | .sub => subop a b h
  | .mul => mulop r a b h
  | .fdiv => divop a b h
  | .mod => modop a b h
  | .pow => powop a b h
def inSeq (h : MH) (x : PV) (xs : List PV) : Option Bool := if flat x && xs.all flat then some (xs.any fun y => eqF y x) else none
def ltop : PV → PV → Option Bool
  | .int i, .int j => some (decide (i < j))
  | .str x, .str y => some (decide (x.cps.toList < y.cps.toList))
  | _, _ => none
def leop : PV → PV → Option Bool
  | .int i, .int j => some (decide (i ≤ j))
  | .str x, .str y => some (!decide (y.cps.toList < x.cps.toList))
  | _, _ => none
def isNon : PV → Bool
  | .non => true
  | _ => false
def inop (h : MH) : PV → PV → Option Bool
  | .str x, .str y => some (!(Builtin.Str.occurrences y x 0 y.length 1).isEmpty)
  | a, b => match items h b with
    | some xs => inSeq h a xs
    | none => match ditems h b, keyOf a with
      | some kvs, some k => some (kget kvs k).isSome
      | _, _ => none
def isBl : PV → PV → Option Bool
  | .bl a, .bl b => some (decide (a = b))
  | _, _ => none
/-- what never changes -/
def immu : PV → Bool
  | .int _ => true
  | .str _ => true
  | .tup _ => true
  | _ => false
noncomputable def augop (op : Bo) (a b : PV) (h : MH) : Res PV := if immu a = true then binop op true a b h else .stuck
def cmpop (op : Co) (a b : PV) (h : MH) : Option Bool := match op with
  | .eq => peq h a b
  | .ne => (peq h a b).map (!·)
  | .lt => ltop a b
  | .le => leop a b
  | .gt => ltop b a
  | .ge => leop b a
  | .isN => if isNon b then some (isNon a) else none
  | .isntN => if isNon b then some (!isNon a) else none
  | .isB => isBl a b
  | .isntB => (isBl a b).map (!·)
  | .inn => inop h a b
  | .nin => (inop h a b).map (!·)
def ofB (o : Option Bool) (h : MH) : Res PV := match o with
  | some b => .ok (.bl b) h
  | none => .stuck
def ixop : PV → PV → MH → Res PV
  | .str x, .int k, h => if x.length ≤ sizeLine then match atI x.cps.toList k with
    | some c => .ok (.str ⟨#[c]⟩) h
    | none => .stuck
    else .stuck
  | a, i, h => match ditems h a, keyOf i with
    | some kvs, some k => match kget kvs k with
      | some y => .ok y h
      | none => .stuck
    | _, _ => match items h a, i with
      | some xs, .int k => match atI xs k with
        | some y => .ok y h
        | none => .stuck
      | _, _ => .stuck
/-- a slice -/
def cutP (xs : List PV) (lo hi : Option Int) : List PV := (xs.drop (HT.sIx xs.length 0 lo)).take (HT.sIx xs.length xs.length hi - HT.sIx xs.length 0 lo)
def slop (r : Bool) : PV → Option Int → Option Int → MH → Res PV
  | .tup xs, lo, hi, h => .ok (.tup (cutP xs lo hi)) h
  | .str x, lo, hi, h => if x.length ≤ sizeLine then .ok (.str (cutS x lo hi)) h else .stuck
  | a, lo, hi, h => match litems h a with
    | some xs => mkLst r (cutP xs lo hi) h
    | none => .stuck
def revop (r : Bool) (a : PV) (h : MH) : Res PV := match litems h a with
  | some xs => mkLst r xs.reverse h
  | none => .stuck
def allB : List PV → Option (List Bool)
  | [] => some []
  | .bl b :: xs => (allB xs).map (b :: ·)
  | _ :: _ => none
def lenop : PV → MH → Res PV
  | .str x, h => if x.length ≤ sizeLine then .ok (.int x.length) h else .stuck
  | a, h => match items h a with
    | some xs => .ok (.int xs.length) h
    | none => match ditems h a with
      | some kvs => .ok (.int kvs.length) h
      | none => .stuck
def intop : PV → MH → Res PV
  | .int i, h => .ok (.int i) h
  | .bl b, h => .ok (.int (if b then 1 else 0)) h
  | _, _ => .stuck
def tupop (a : PV) (h : MH) : Res PV := match items h a with
  | some xs => .ok (.tup xs) h
  | none => .stuck
def lstop (r : Bool) (a : PV) (h : MH) : Res PV := match items h a with
  | some xs => mkLst r xs h
  | none => .stuck
def boolsop (f : List Bool → Bool) (a : PV) (h : MH) : Res PV := match litems h a with
  | some xs => match allB xs with
    | some bs => .ok (.bl (f bs)) h
    | none => .stuck
  | none => .stuck
def int1 (f : Int → Int) : PV → MH → Res PV
  | .int i, h => .ok (.int (f i)) h
  | _, _ => .stuck
def int2 (f : Int → Int → Int) : PV → PV → MH → Res PV
  | .int i, .int j, h => .ok (.int (f i j)) h
  | _, _, _ => .stuck
/-- texts in order -/
def leS (x y : Str) : Bool := !decide (y.cps.toList < x.cps.toList)
def sortop (r : Bool) (a : PV) (h : MH) : Res PV := match litems h a with
  | some xs => match intsOf xs with
    | some is => mkLst r ((is.mergeSort fun i j => decide (i ≤ j)).map PV.int) h
    | none => match strsOf xs with
      | some ss => if ss.length < 64 then mkLst r ((ss.mergeSort leS).map PV.str) h else .stuck
      | none => .stuck
  | none => match ditems h a with
    | some kvs => match strsOf (kvs.map fun p => kP p.1) with
      | some ss => if ss.length < 64 then mkLst r ((ss.mergeSort leS).map PV.str) h else .stuck
      | none => .stuck
    | none => .stuck
def dictop (a : PV) (h : MH) : Res PV := match ditems h a with
  | some kvs => mkDic kvs h
  | none => match items h a with
    | some xs => match pairsOf xs with
      | some ps => mkDic (kmerge [] ps) h
      | none => .stuck
    | none => .stuck
def dzipop (a b : PV) (h : MH) : Res PV := match items h a, items h b with
  | some xs, some ys => match keysOf xs with
    | some ks => mkDic (kmerge [] (ks.zip ys)) h
    | none => .stuck
  | _, _ => .stuck
def sumop (a : PV) (h : MH) : Res PV := match litems h a with
  | some xs => match intsOf xs with
    | some is => .ok (.int is.sum) h
    | none => .stuck
  | none => .stuck
/-- the least, the greatest -/
def least : List Int → Option Int
  | [] => none
  | i :: is => some (is.foldl (fun a b => if b < a then b else a) i)
def most : List Int → Option Int
  | [] => none
  | i :: is => some (is.foldl (fun a b => if a < b then b else a) i)
def oneop (f : List Int → Option Int) (a : PV) (h : MH) : Res PV := match litems h a with
  | some xs => match intsOf xs with
    | some is => match f is with
      | some i => .ok (.int i) h
      | none => .stuck
    | none => .stuck
  | none => .stuck
def bltop (f : Bi) (r : Bool) (as : List PV) (h : MH) : Res PV := match f with
  | .len => match as with
    | [a] => lenop a h
    | _ => .stuck
  | .abs => match as with
    | [a] => int1 (fun i => if i < 0 then -i else i) a h
    | _ => .stuck
  | .min => match as with
    | [a, b] => int2 (fun i j => if j < i then j else i) a b h
    | _ => .stuck
  | .max => match as with
    | [a, b] => int2 (fun i j => if j > i then j else i) a b h
    | _ => .stuck
  | .int => match as with
    | [a] => intop a h
    | _ => .stuck
  | .tuple => match as with
    | [a] => tupop a h
    | _ => .stuck
  | .list => match as with
    | [a] => lstop r a h
    | _ => .stuck
  | .any => match as with
    | [a] => boolsop (fun bs => bs.any id) a h
    | _ => .stuck
  | .all => match as with
    | [a] => boolsop (fun bs => bs.all id) a h
    | _ => .stuck
  | .gcd => match as with
    | [a, b] => int2 (fun i j => ((Nat.gcd i.natAbs j.natAbs : Nat) : Int)) a b h
    | _ => .stuck
  | .sorted => match as with
    | [a] => sortop r a h
    | _ => .stuck
  | .dict => match as with
    | [a] => dictop a h
    | _ => .stuck
  | .sum => match as with
    | [a] => sumop a h
    | _ => .stuck
  | .min1 => match as with
    | [a] => oneop least a h
    | _ => .stuck
  | .max1 => match as with
    | [a] => oneop most a h
    | _ => .stuck
/-- a value's type, if it is data -/
def tyOf (h : MH) : PV → Option String
  | .non => some "NoneType"
  | .bl _ => some "bool"
  | .int _ => some "int"
  | .str _ => some "str"
  | .tup _ => some "tuple"
  | .lst _ => some "list"
  | .dic _ _ => some "dict"
  | .ref n => match h[n]? with
    | some (.lst _) => some "list"
    | some (.dic _) => some "dict"
    | some (.fdic _) => some "dict"
    | _ => none
  | .exn _ _ => none
  | .fn _ => none
/-- a type is another one or below it -/
def subB (t1 t2 : String) : Bool := t1 == t2 || (t1 == "bool" && t2 == "int")
/-- the types that are asked for -/
def askT : List String := ["bool", "int", "str", "tuple", "list", "dict"]
/-- an exception's class is another one or below it -/
def subT (exc : List Str) (t1 t2 : Str) : Bool := t1 == t2 || t2 == ("WishError" : Str) || t2 == ("ValueError" : Str)
def isiop (a : PV) (ts : List String) (h : MH) : Option Bool := (tyOf h a).map fun t => ts.any (subB t)
def appop : PV → PV → MH → Res PV
  | .ref n, x, h => match h[n]? with
    | some (.lst xs) => if xs.length < sizeLine then .ok .non (h.set n (.lst (xs ++ [x]))) else .stuck
    | _ => .stuck
  | _, _, _ => .stuck
def extop : PV → PV → MH → Res PV
  | .ref n, a, h => match h[n]?, litems h a with
    | some (.lst xs), some ys => if xs.length + ys.length ≤ sizeLine then .ok .non (h.set n (.lst (xs ++ ys))) else .stuck
    | _, _ => .stuck
  | _, _, _ => .stuck
/-- what stands in the heap -/
def isLst (h : MH) : PV → Bool
  | .ref n => match h[n]? with
    | some (.lst _) => true
    | _ => false
  | _ => false
def isDic (h : MH) (o : PV) : Bool := (ditems h o).isSome
def isStr : PV → Bool
  | .str _ => true
  | _ => false
def isLsq (h : MH) (o : PV) : Bool := (litems h o).isSome
def popL (o : PV) (h : MH) : Res PV := match o with
  | .ref n => match h[n]? with
    | some (.lst xs) => match xs[xs.length - 1]? with
      | some y => .ok y (h.set n (.lst xs.dropLast))
      | none => .stuck
    | _ => .stuck
  | _ => .stuck
def popI (o i : PV) (h : MH) : Res PV := match o, i with
  | .ref n, .int i => match h[n]? with
    | some (.lst xs) => match seqIndex? i xs.length with
      | some k => match xs[k]? with
        | some y => if -(2 ^ 63) ≤ i ∧ i < 2 ^ 63 then .ok y (h.set n (.lst (xs.eraseIdx k))) else .stuck
        | none => .stuck
      | none => .stuck
    | _ => .stuck
  | _, _ => .stuck
def popD (o i d : PV) (h : MH) : Res PV := match o, keyOf i with
  | .ref n, some k => match h[n]? with
    | some (.dic kvs) => match kget kvs k with
      | some y => .ok y (h.set n (.dic (kdrop kvs k)))
      | none => .ok d h
    | _ => .stuck
  | _, _ => .stuck
def getD (o i d : PV) (h : MH) : Res PV := match ditems h o, keyOf i with
  | some kvs, some k => .ok ((kget kvs k).getD d) h
  | _, _ => .stuck
def insop (o i x : PV) (h : MH) : Res PV := match o, i with
  | .ref n, .int i => match h[n]? with
    | some (.lst xs) => if xs.length < sizeLine ∧ 0 ≤ i ∧ i < 2 ^ 63 then .ok .non (h.set n (.lst (xs.take i.toNat ++ [x] ++ xs.drop i.toNat))) else .stuck
    | _ => .stuck
  | _, _ => .stuck
def indop (o x : PV) (h : MH) : Res PV := match toD (rd1 h) o, toD (rd1 h) x with
  | some (.list ds), some d => if SeqAt.shaped (.list ds) && SeqAt.shaped d then match ds.findIdx? (fun z => PyData.eqv z d) with
      | some j => .ok (.int (j : Nat)) h
      | none => .stuck
    else .stuck
  | _, _ => .stuck
def revI (o : PV) (h : MH) : Res PV := match o with
  | .ref n => match h[n]? with
    | some (.lst xs) => .ok .non (h.set n (.lst xs.reverse))
    | _ => .stuck
  | _ => .stuck
def clrop (o : PV) (h : MH) : Res PV := match o with
  | .ref n => match h[n]? with
    | some (.lst xs) => .ok .non (h.set n (.lst []))
    | _ => .stuck
  | _ => .stuck
def joinop (o a : PV) (h : MH) : Res PV := match o, items h a with
  | .str x, some xs => match strsOf xs with
    | some ys => if (ys.map (·.length)).sum + ys.length * x.length ≤ 16777216 then .ok (.str (Txt.join x ys)) h else .stuck
    | none => .stuck
  | _, _ => .stuck
def uppop (o : PV) (h : MH) : Res PV := match o with
  | .str x => if x.length ≤ 5592405 then .ok (.str (Txt.upper x)) h else .stuck
  | _ => .stuck
/-- what a method is asked of -/
def metok (m : Mt) (n : Nat) (o : PV) (h : MH) : Bool := match m with
  | .append | .extend | .insert | .reverse | .clear => isLst h o
  | .pop => if n = 2 then isDic h o else isLst h o
  | .index => isLsq h o
  | .get => isDic h o
  | .join | .upper => isStr o
def metop (m : Mt) (r : Bool) (o : PV) (as : List PV) (h : MH) : Res PV := match m with
  | .append => match as with
    | [a] => appop o a h
    | _ => .stuck
  | .extend => match as with
    | [a] => extop o a h
    | _ => .stuck
  | .pop => match as with
    | [] => popL o h
    | [a] => popI o a h
    | [a, d] => popD o a d h
    | _ => .stuck
  | .insert => match as with
    | [i, x] => insop o i x h
    | _ => .stuck
  | .index => match as with
    | [x] => indop o x h
    | _ => .stuck
  | .reverse => match as with
    | [] => revI o h
    | _ => .stuck
  | .clear => match as with
    | [] => clrop o h
    | _ => .stuck
  | .get => match as with
    | [i, d] => getD o i d h
    | _ => .stuck
  | .join => match as with
    | [a] => joinop o a h
    | _ => .stuck
  | .upper => match as with
    | [] => uppop o h
    | _ => .stuck

/-! ### slots -/
abbrev Env' := List (Option PV)
def wipeP (ρ : Env') : List Nat → Env'
  | [] => ρ
  | v :: vs => (wipeP ρ vs).set v none
mutual
def bindG : Ag → PV → Env' → MH → Option Env'
  | .nm i, x, ρ, _ => if i < ρ.length then some (ρ.set i (some x)) else none
  | .tp gs, x, ρ, h => match x with
    | .tup xs => bindGs gs xs ρ h
    | _ => none
def bindGs : Ags → List PV → Env' → MH → Option Env'
  | .nil, [], ρ, _ => some ρ
  | .cons g gs, x :: xs, ρ, h => match bindG g x ρ h with
    | some ρ' => bindGs gs xs ρ' h
    | none => none
  | _, _, _, _ => none
end
/-- what a loop goes through: the changing lists that must stay as they are, the items -/
abbrev Src := List (Nat × List PV) × List PV
def chk (l : List (Nat × List PV)) (h : MH) : Prop := ∀ p ∈ l, h[p.1]? = some (.lst p.2)
open Classical in
noncomputable def compL (body : PV → MH → Res (Option PV)) (l : List (Nat × List PV)) : List PV → List PV → MH → Res (List PV)
  | [], acc, h => if chk l h then .ok acc h else .stuck
  | x :: xs, acc, h => if chk l h then (body x h).bind fun o h => compL body l xs (match o with | none => acc | some y => acc ++ [y]) h else .stuck

/-! ### expressions -/
/-- what a call of a def hands on -/
abbrev Calls := Str → List PV → List Str → List PV → MH → Res PV
section
variable (P : Pg) (cl : Calls)
def src (a : PV) (h : MH) : Option Src := match a with
  | .tup xs => some ([], xs)
  | .lst xs => some ([], xs)
  | .str x => some ([], x.cps.toList.map fun c => PV.str ⟨#[c]⟩)
  | .ref n => match h[n]? with
    | some (.lst xs) => some ([(n, xs)], xs)
    | _ => none
  | _ => none
mutual
noncomputable def ev : Ae → Env' → MH → Res PV
  | .v i, ρ, h => match ρ[i]? with
    | some (some x) => .ok x h
    | _ => .stuck
  | .non, _, h => .ok .non h
  | .bl b, _, h => .ok (.bl b) h
  | .int i, _, h => .ok (.int i) h
  | .str x, _, h => .ok (.str x) h
  | .con x, _, h => match P.con x with
    | some v => .ok v h
    | none => .stuck
  | .tup es, ρ, h => (evs es ρ h).bind fun xs h => .ok (.tup xs) h
  | .lst r es, ρ, h => (evs es ρ h).bind fun xs h => mkLst r xs h
  | .bin op r a b, ρ, h => (ev a ρ h).bind fun x h => (ev b ρ h).bind fun y h => binop op r x y h
  | .neg a, ρ, h => (ev a ρ h).bind fun x h => match x with
    | .int i => .ok (.int (-i)) h
    | _ => .stuck
  | .not a, ρ, h => (ev a ρ h).bind fun x h => ofB ((truthy h x).map (!·)) h
  | .cmp op a b, ρ, h => (ev a ρ h).bind fun x h => (ev b ρ h).bind fun y h => ofB (cmpop op x y h) h
  | .chain op op' a b c, ρ, h => (ev a ρ h).bind fun x h => (ev b ρ h).bind fun y h => match cmpop op x y h with
    | some true => (ev c ρ h).bind fun z h => ofB (cmpop op' y z h) h
    | some false => .ok (.bl false) h
    | none => .stuck
  | .and es, ρ, h => evAnd es ρ h
  | .or es, ρ, h => evOr es ρ h
  | .ifx c a b, ρ, h => (ev c ρ h).bind fun x h => match truthy h x with
    | some true => ev a ρ h
    | some false => ev b ρ h
    | none => .stuck
  | .ix a i, ρ, h => (ev a ρ h).bind fun x h => (ev i ρ h).bind fun y h => ixop x y h
  | .sl r a lo hi, ρ, h => (ev a ρ h).bind fun x h => (evo lo ρ h).bind fun l h => (evo hi ρ h).bind fun u h => slop r x l u h
  | .call f es ks kes, ρ, h => (evs es ρ h).bind fun xs h => (evs kes ρ h).bind fun ys h => cl f xs ks ys h
  | .blt f r es, ρ, h => (evs es ρ h).bind fun xs h => bltop f r xs h
  | .isi a ts, ρ, h => (ev a ρ h).bind fun x h => ofB (isiop x ts h) h
  | .met m r o es, ρ, h => (ev o ρ h).bind fun x h => if metok m es.len x h = true then (evs es ρ h).bind fun xs h => metop m r x xs h else .stuck
  | .tupS es, ρ, h => (evs es ρ h).bind fun xs h => if xs.length ≤ sizeLine then .ok (.tup xs) h else .stuck
  | .lstS r es, ρ, h => (evs es ρ h).bind fun xs h => if xs.length ≤ sizeLine then mkLst r xs h else .stuck
  | .rev r a, ρ, h => (ev a ρ h).bind fun x h => revop r x h
  | .dnew ps, ρ, h => (evD ps ρ h).bind fun ps h => mkDic (kmerge [] ps) h
  | .dzip a b, ρ, h => (ev a ρ h).bind fun x h => (ev b ρ h).bind fun y h => dzipop x y h
  | .fnv f, _, h => if (P.fns f).isSome = true then .ok (.fn f) h else .stuck
  | .calv i es, ρ, h => match ρ[i]? with
    | some (some (.fn f)) => if (P.fns f).isSome = true then (evs es ρ h).bind fun xs h => cl f xs [] [] h else .stuck
    | _ => .stuck
  | .comp r elt g it ifs own, ρ, h => (evi it ρ h).bind fun s h => (compL (fun x h => Res.nox (match bindG g x (wipeP ρ (own.map (·.2))) h with
      | some ρ' => (evIfs ifs ρ' h).bind fun b h => if b = true then (ev elt ρ' h).bind fun y h => .ok (some y) h else .ok none h
      | none => .stuck)) s.1 s.2 [] h).bind fun xs h => if xs.length ≤ sizeLine then mkLst r xs h else .stuck
  | .val i, ρ, h => match ρ[i]? with
    | some (some (.exn c v)) => if P.exc.contains c = true then .ok v h else .stuck
    | _ => .stuck
noncomputable def evs : Aes → Env' → MH → Res (List PV)
  | .nil, _, h => .ok [] h
  | .cons e es, ρ, h => (ev e ρ h).bind fun x h => (evs es ρ h).bind fun xs h => .ok (x :: xs) h
  | .star e es, ρ, h => (ev e ρ h).bind fun x h => match items h x with
    | some ys => (evs es ρ h).bind fun xs h => .ok (ys ++ xs) h
    | none => .stuck
/-- a display of a dict -/
noncomputable def evD : Aps → Env' → MH → Res (List (Key × PV))
  | .nil, _, h => .ok [] h
  | .cons k v ps, ρ, h => (ev k ρ h).bind fun x h => (ev v ρ h).bind fun y h => match keyOf x with
    | some j => (evD ps ρ h).bind fun qs h => .ok ((j, y) :: qs) h
    | none => .stuck
noncomputable def evAnd : Aes → Env' → MH → Res PV
  | .nil, _, _ => .stuck
  | .star _ _, _, _ => .stuck
  | .cons e .nil, ρ, h => ev e ρ h
  | .cons e es, ρ, h => (ev e ρ h).bind fun x h => match truthy h x with
    | some true => evAnd es ρ h
    | some false => .ok x h
    | none => .stuck
noncomputable def evOr : Aes → Env' → MH → Res PV
  | .nil, _, _ => .stuck
  | .star _ _, _, _ => .stuck
  | .cons e .nil, ρ, h => ev e ρ h
  | .cons e es, ρ, h => (ev e ρ h).bind fun x h => match truthy h x with
    | some true => .ok x h
    | some false => evOr es ρ h
    | none => .stuck
noncomputable def evIfs : Ao → Env' → MH → Res Bool
  | .none, _, h => .ok true h
  | .some e, ρ, h => (ev e ρ h).bind fun x h => match truthy h x with
    | some b => .ok b h
    | none => .stuck
noncomputable def evo : Ao → Env' → MH → Res (Option Int)
  | .none, _, h => .ok none h
  | .some e, ρ, h => (ev e ρ h).bind fun x h => match x with
    | .int i => .ok (some i) h
    | _ => .stuck
noncomputable def evi : Ai → Env' → MH → Res Src
  | .ex e, ρ, h => (ev e ρ h).bind fun x h => match src x h with
    | some s => .ok s h
    | none => .stuck
  | .range1 e, ρ, h => (ev e ρ h).bind fun x h => match x with
    | .int j => if -(2 ^ 62) ≤ j ∧ j < 2 ^ 62 then .ok ([], (List.range j.toNat).map fun (k : Nat) => PV.int (k : Int)) h else .stuck
    | _ => .stuck
  | .range2 a b, ρ, h => (ev a ρ h).bind fun x h => (ev b ρ h).bind fun y h => match x, y with
    | .int i, .int j => if -(2 ^ 62) ≤ i ∧ i < 2 ^ 62 ∧ -(2 ^ 62) ≤ j ∧ j < 2 ^ 62 then .ok ([], (List.range (j - i).toNat).map fun (k : Nat) => PV.int (i + (k : Int))) h else .stuck
    | _, _ => .stuck
  | .range3 a b c, ρ, h => (ev a ρ h).bind fun x h => (ev b ρ h).bind fun y h => (ev c ρ h).bind fun z h => match x, y, z with
    | .int i, .int j, .int k => if k ≠ 0 ∧ k.natAbs < 1073741824 ∧ Builtin.Range.small i j k = true then .ok ([], (List.range (Builtin.Range.rangeSize i j k).toNat).map fun (t : Nat) => PV.int (i + (t : Int) * k)) h else .stuck
    | _, _, _ => .stuck
  | .zip2 a b, ρ, h => (ev a ρ h).bind fun x h => (ev b ρ h).bind fun y h => match src x h, src y h with
    | some s, some t => if isStr x = false ∧ isStr y = false then .ok (s.1 ++ t.1, (s.2.zip t.2).map fun p => .tup [p.1, p.2]) h else .stuck
    | _, _ => .stuck
  | .zip3 a b c, ρ, h => (ev a ρ h).bind fun x h => (ev b ρ h).bind fun y h => (ev c ρ h).bind fun z h => match src x h, src y h, src z h with
    | some s, some t, some u => .ok (s.1 ++ t.1 ++ u.1, (s.2.zip (t.2.zip u.2)).map fun p => .tup [p.1, p.2.1, p.2.2]) h
    | _, _, _ => .stuck
  | .enum a, ρ, h => (ev a ρ h).bind fun x h => match src x h with
    | some s => .ok (s.1, s.2.zipIdx.map fun p => .tup [.int p.2, p.1]) h
    | none => .stuck
  | .rev a, ρ, h => (ev a ρ h).bind fun x h => match src x h with
    | some s => .ok (s.1, s.2.reverse) h
    | none => .stuck
end
end

/-! ### statements -/
inductive Out where
  | nx (ρ : Env') (h : MH) | rt (v : PV) (h : MH) | bk (ρ : Env') (h : MH) | ct (ρ : Env') (h : MH)
  | exn (c : Str) (v : PV) (ρ : Env') (h : MH) | stuck
/-- an expression's outcome goes on -/
def Res.out {α : Type} (r : Res α) (ρ : Env') (f : α → MH → Out) : Out := match r with
  | .ok a h => f a h
  | .exn c v h => .exn c v ρ h
  | .stuck => .stuck
def Out.seq (o : Out) (f : Env' → MH → Out) : Out := match o with
  | .nx ρ h => f ρ h
  | o => o
/-- no exception may leave -/
def Out.nox (o : Out) : Out := match o with
  | .exn _ _ _ _ => .stuck
  | o => o
/-- behind an except suite with a name -/
def Out.gone (o : Out) (i : Nat) : Out := match o with
  | .nx ρ h => .nx (ρ.set i none) h
  | .bk ρ h => .bk (ρ.set i none) h
  | .ct ρ h => .ct (ρ.set i none) h
  | .rt v h => .rt v h
  | _ => .stuck
/-- a loop's turn is over -/
def Out.turn (o : Out) (f : Env' → MH → Out) : Out := match o with
  | .nx ρ h => f ρ h
  | .ct ρ h => f ρ h
  | .bk ρ h => .nx ρ h
  | o => o
open Classical in
noncomputable def forL (body : PV → Env' → MH → Out) (l : List (Nat × List PV)) : List PV → Env' → MH → Out
  | [], ρ, h => if chk l h then .nx ρ h else .stuck
  | x :: xs, ρ, h => if chk l h then (body x ρ h).turn (forL body l xs) else .stuck
def whlN (c : Env' → MH → Res Bool) (b : Env' → MH → Out) : Nat → Env' → MH → Out
  | 0, _, _ => .stuck
  | n + 1, ρ, h => (c ρ h).out ρ fun t h => if t = true then (b ρ h).turn (whlN c b n) else .nx ρ h
open Classical in
noncomputable def whlE (c : Env' → MH → Res Bool) (b : Env' → MH → Out) (ρ : Env') (h : MH) : Out :=
  if e : ∃ n, whlN c b n ρ h ≠ .stuck then whlN c b (Classical.choose e) ρ h else .stuck
/-- o[i] = v -/
def putop (o i v : PV) (h : MH) : Option MH := match o, i with
  | .ref n, .int k => match h[n]? with
    | some (.lst xs) => match ixN xs.length k with
      | some j => some (h.set n (.lst (xs.set j v)))
      | none => none
    | some (.dic kvs) => if kvs.length < sizeLine then some (h.set n (.dic (kput kvs (.inl k) v))) else none
    | _ => none
  | .ref n, .str k => match h[n]? with
    | some (.dic kvs) => if kvs.length < sizeLine then some (h.set n (.dic (kput kvs (.inr k) v))) else none
    | _ => none
  | _, _ => none
section
variable (P : Pg) (cl : Calls)
noncomputable def tst (e : Ae) (ρ : Env') (h : MH) : Res Bool := (ev P cl e ρ h).bind fun x h => match truthy h x with
  | some b => .ok b h
  | none => .stuck
mutual
noncomputable def run1 : As → Env' → MH → Out
  | .ex e, ρ, h => (ev P cl e ρ h).out ρ fun _ h => .nx ρ h
  | .set g e, ρ, h => (ev P cl e ρ h).out ρ fun x h => match bindG g x ρ h with
    | some ρ' => .nx ρ' h
    | none => .stuck
  | .put o i e, ρ, h => (ev P cl e ρ h).out ρ fun x h => (ev P cl o ρ h).out ρ fun a h => (ev P cl i ρ h).out ρ fun k h => match putop a k x h with
    | some h => .nx ρ h
    | none => .stuck
  | .aug i op e, ρ, h => match ρ[i]? with
    | some (some x) => (ev P cl e ρ h).out ρ fun y h => (augop op x y h).out ρ fun z h => .nx (ρ.set i (some z)) h
    | _ => .stuck
  | .augs o i op e, ρ, h => (ev P cl o ρ h).out ρ fun a h => (ev P cl i ρ h).out ρ fun k h => (ixop a k h).out ρ fun x h => (ev P cl e ρ h).out ρ fun y h => (augop op x y h).out ρ fun z h => match putop a k z h with
    | some h => .nx ρ h
    | none => .stuck
  | .ite c a b, ρ, h => (tst P cl c ρ h).out ρ fun t h => if t = true then runs a ρ h else runs b ρ h
  | .whl c b, ρ, h => whlE (tst P cl c) (runs b) ρ h
  | .for g it b, ρ, h => (evi P cl it ρ h).out ρ fun s h => forL (fun x ρ h => match bindG g x ρ h with
    | some ρ' => runs b ρ' h
    | none => .stuck) s.1 s.2 ρ h
  | .ret e, ρ, h => (ev P cl e ρ h).out ρ fun x h => .rt x h
  | .retN, _, h => .rt .non h
  | .rais c e _, ρ, h => (ev P cl e ρ h).out ρ fun x h => .exn c x ρ h
  | .try b hs, ρ, h => match runs b ρ h with
    | .exn c v ρ h => if P.exc.contains c = true then runH hs c v ρ h else .stuck
    | o => o
  | .brk, ρ, h => .bk ρ h
  | .cnt, ρ, h => .ct ρ h
  | .pas, ρ, h => .nx ρ h
noncomputable def runs : Ass → Env' → MH → Out
  | .nil, ρ, h => .nx ρ h
  | .cons s ss, ρ, h => (run1 s ρ h).seq (runs ss)
noncomputable def runH : Ahs → Str → PV → Env' → MH → Out
  | .nil, c, v, ρ, h => .exn c v ρ h
  | .cons t n b hs, c, v, ρ, h => if subT P.exc c t = true then match n with
      | none => (runs b ρ h).nox
      | some i => if i < ρ.length then (runs b (ρ.set i (some (.exn c v))) h).gone i else .stuck
    else runH hs c v ρ h
end
end
/-- the parameters' values, in their order, from those by place and those by name -/
def looks {α : Type} (kv : List (Str × α)) : List Str → Option (List α)
  | [] => some []
  | p :: ps => match kv.lookup p, looks kv ps with
    | some a, some as => some (a :: as)
    | _, _ => none
def argsOf {α : Type} (ps : List Str) (xs : List α) (ks : List Str) (ys : List α) : Option (List α) :=
  if xs.length + ks.length = ps.length ∧ ks.length = ys.length ∧ ks.Nodup ∧ ∀ k ∈ ks, k ∈ ps.drop xs.length then
    (looks (ks.zip ys) (ps.drop xs.length)).map fun zs => xs ++ zs
  else none
/-- what a def's body hands on to its caller; kp: a list that it tells goes on changing -/
noncomputable def Out.res (kp : Bool) (h : MH) : Out → Res PV
  | .nx _ h' => if kp = true then .ok .non h' else .ok (leave h .non h').1 (leave h .non h').2
  | .rt v h' => if kp = true then .ok v h' else .ok (leave h v h').1 (leave h v h').2
  | .exn c v _ h' => if kp = true then .exn c v h' else .exn c (leave h v h').1 (leave h v h').2
  | _ => .stuck
/-- a def's body at bound arguments -/
noncomputable def body (P : Pg) (cl : Calls) (d : Fn) (as : List PV) (h : MH) : Res PV :=
  (runs P cl d.body (as.map some ++ List.replicate (d.ns - as.length) none) h).res d.kp h
/-- a call, n deep -/
noncomputable def call (P : Pg) : Nat → Calls
  | 0, _, _, _, _, _ => .stuck
  | n + 1, f, xs, ks, ys, h => match P.fns f with
    | none => .stuck
    | some d => match argsOf d.ps xs ks ys with
      | none => .stuck
      | some as => body P (call P n) d as h
end Mx

end

section
set_option Elab.async false
set_option linter.all false
set_option maxRecDepth 100000
set_option maxHeartbeats 2000000
/-! Which text stands for which term: a look that the kernel does. -/
namespace Mx
open PySem PySem.Spec PyProof.Rows L2

def visB (sc : Scope) (x : Str) : Bool := match sc.names.lookup x with
  | some .local => true
  | some .cell => true
  | some .free => true
  | _ => false
def locB (sc : Scope) (x : Str) : Bool := match sc.names.lookup x with
  | some .local => true
  | some .cell => true
  | _ => false
def onlyLocB (sc : Scope) (x : Str) : Bool := match sc.names.lookup x with
  | some .local => true
  | _ => false
def gloB (sc : Scope) (x : Str) : Bool := match sc.names.lookup x with
  | some .globalImplicit => !(x == ("__debug__" : Str))
  | _ => false
def boM : Bo → Operator → Bool
  | .add, .Add => true
  | .sub, .Sub => true
  | .mul, .Mult => true
  | .fdiv, .FloorDiv => true
  | .mod, .Mod => true
  | .pow, .Pow => true
  | _, _ => false
def coM : Co → CmpOp → Bool
  | .eq, .Eq => true
  | .ne, .NotEq => true
  | .lt, .Lt => true
  | .le, .LtE => true
  | .gt, .Gt => true
  | .ge, .GtE => true
  | .isN, .Is => true
  | .isntN, .IsNot => true
  | .isB, .Is => true
  | .isntB, .IsNot => true
  | .inn, .In => true
  | .nin, .NotIn => true
  | _, _ => false
def biN : Bi → Str
  | .len => "len"
  | .abs => "abs"
  | .min => "min"
  | .max => "max"
  | .int => "int"
  | .tuple => "tuple"
  | .list => "list"
  | .any => "any"
  | .all => "all"
  | .gcd => "gcd"
  | .sorted => "sorted"
  | .dict => "dict"
  | .sum => "sum"
  | .min1 => "min"
  | .max1 => "max"
def mtN : Mt → Str
  | .append => "append"
  | .extend => "extend"
  | .pop => "pop"
  | .insert => "insert"
  | .index => "index"
  | .reverse => "reverse"
  | .clear => "clear"
  | .get => "get"
  | .join => "join"
  | .upper => "upper"
/-- how many arguments a method takes -/
def mtA : Mt → Nat → Bool
  | .append, 1 => true
  | .extend, 1 => true
  | .pop, 0 => true
  | .pop, 1 => true
  | .pop, 2 => true
  | .insert, 2 => true
  | .index, 1 => true
  | .reverse, 0 => true
  | .clear, 0 => true
  | .get, 2 => true
  | .join, 1 => true
  | .upper, 0 => true
  | _, _ => false
def noSpecial (x : Str) : Bool := !(x == ("__debug__" : Str)) && !(x == ("__classdict__" : Str))
/-- how many arguments a built-in is looked at with -/
def biA : Bi → Nat
  | .min => 2
  | .max => 2
  | .gcd => 2
  | _ => 1
/-- what may be called anywhere -/
def biC : Bi → Bool
  | .min => false
  | .max => false
  | .any => false
  | .all => false
  | .sorted => false
  | .dict => false
  | .sum => false
  | .min1 => false
  | .max1 => false
  | _ => true
def isSlice : Expr → Bool
  | .Slice _ _ _ _ => true
  | _ => false
/-- no call without arguments of a name -/
def plainO : Expr → Bool
  | .Call (.Name _ _) [] [] _ => false
  | _ => true
/-- what is looked at besides: names that the module leaves to the built-ins; the names of defs with how they are called -/
structure Lk where
  fr : List Str
  gcd : Bool
  cons : List Str
  exc : List Str
  fns : List Str
  hot : Bool
def isTupE : Expr → Bool
  | .Tuple _ _ _ => true
  | _ => false
section
variable (L : Lk) (N : List Str)
def freeB (sc : Scope) (x : Str) : Bool := gloB sc x && L.fr.contains x
/-- the scope of a block within -/
abbrev inS (scope sc : Scope) : Scope := relS scope sc
def tyE (sc : Scope) (t : String) : Expr → Bool
  | .Name x _ => x == (t : Str) && freeB L sc x && askT.contains t
  | _ => false
def tyEs (sc : Scope) : List String → List Expr → Bool
  | [], [] => true
  | t :: ts, e :: es => tyE L sc t e && tyEs sc ts es
  | _, _ => false
def Ag.slots : Ag → List Nat
  | .nm i => [i]
  | .tp gs => gsl gs
where gsl : Ags → List Nat
  | .nil => []
  | .cons g gs => g.slots ++ gsl gs
mutual
def mE (sc : Scope) : Ae → Expr → Bool
  | .v i, .Name x _ => decide (N[i]? = some x) && visB sc x && noSpecial x
  | .non, .Constant .none _ _ => true
  | .bl b, .Constant (.bool c) _ _ => b == c
  | .int i, .Constant (.int j) _ _ => decide (i = j)
  | .str x, .Constant (.str y) _ _ => decide (x = y)
  | .con x, .Name y _ => decide (x = y) && gloB sc y && L.cons.contains y
  | .tup es, .Tuple xs _ _ => mEs sc es xs && decide (es.len ≤ 1000)
  | .lst _ es, .List xs _ => mEs sc es xs && decide (es.len ≤ 1000)
  | .bin op _ a b, .BinOp x o y _ => boM op o && mE sc a x && mE sc b y
  | .neg a, .UnaryOp .USub x _ => mE sc a x
  | .not a, .UnaryOp .Not x _ => mE sc a x
  | .cmp op a b, .Compare x [o] [y] _ => coM op o && mE sc a x && mE sc b y
  | .chain op op' a b c, .Compare x [o, o'] [y, z] _ => coM op o && coM op' o' && mE sc a x && mE sc b y && mE sc c z
  | .and es, .BoolOp .And xs _ => mEs sc es xs
  | .or es, .BoolOp .Or xs _ => mEs sc es xs
  | .ifx c a b, .IfExp x y z _ => mE sc c x && mE sc a y && mE sc b z
  | .ix a i, .Subscript x y _ => mE sc a x && mE sc i y
  | .sl _ a lo hi, .Subscript x (.Slice l h none _) _ => mE sc a x && mO sc lo l && mO sc hi h
  | .call f es ks kes, .Call (.Name g _) xs kws _ => decide (f = g) && gloB sc g && L.fns.contains g && !L.hot && mEs sc es xs && mKs sc ks kes kws
  | .blt f _ es, .Call (.Name g _) xs [] _ => decide (biN f = g) && gloB sc g && (if f = .gcd then L.gcd else L.fr.contains g) && (biC f || !L.hot) && mEs sc es xs && decide (es.len = biA f)
  | .isi a ts, .Call (.Name g _) [x, t] [] _ => decide (g = ("isinstance" : Str)) && freeB L sc g && mE sc a x && (match ts, t with
      | [t1], .Name _ _ => tyE L sc t1 t
      | ts, .Tuple us _ _ => tyEs L sc ts us && decide (ts.length ≤ 1000) && decide (1 ≤ ts.length)
      | _, _ => false)
  | .met m _ o es, .Call (.Attribute x g ap) ys [] cp => decide (mtN m = g) && plainO x && mE sc o x && mEs sc es ys && decide (ap.endLine = cp.line) && mtA m es.len
  | .tupS es, .Tuple xs _ _ => mSt sc es xs
  | .lstS _ es, .List xs _ => mSt sc es xs
  | .rev _ a, .Subscript x (.Slice none none (some (.UnaryOp .USub (.Constant (.int 1) _ _) _)) _) _ => mE sc a x
  | .dnew ps, .Dict kx vx _ => mKD sc ps kx vx && decide (ps.len ≤ 15)
  | .dzip a b, .Call (.Name g _) [.Call (.Name z _) [x, y] [] _] [] _ => !L.hot && decide (g = ("dict" : Str)) && freeB L sc g && decide (z = ("zip" : Str)) && freeB L sc z && mE sc a x && mE sc b y
  | .fnv f, .Name x _ => decide (f = x) && gloB sc x && L.fns.contains x && !L.hot
  | .calv i es, .Call (.Name x _) ys [] _ => decide (N[i]? = some x) && visB sc x && noSpecial x && !L.hot && mEs sc es ys
  | .comp _ elt g it ifs own, .ListComp e [⟨tg, iter, fs, 0⟩] scope _ => !L.hot && blkC N sc scope own && decide (∀ i ∈ g.slots, i ∈ own.map (·.2)) && mI sc tg it iter && mG (fun x => scope.names.lookup x == some .cell) (inS scope sc) g tg && mIfs (inS scope sc) ifs fs && mE (inS scope sc) elt e
  | .val i, .Attribute (.Name x _) a _ => decide (N[i]? = some x) && onlyLocB sc x && noSpecial x && decide (a = ("value" : Str))
  | _, _ => false
def mEs (sc : Scope) : Aes → List Expr → Bool
  | .nil, [] => true
  | .cons e es, x :: xs => mE sc e x && mEs sc es xs
  | _, _ => false
def mSt (sc : Scope) : Aes → List Expr → Bool
  | .nil, [] => true
  | .cons e es, x :: xs => mE sc e x && mSt sc es xs
  | .star e es, .Starred x _ :: xs => mE sc e x && mSt sc es xs
  | _, _ => false
def mKD (sc : Scope) : Aps → List (Option Expr) → List Expr → Bool
  | .nil, [], [] => true
  | .cons k v ps, some x :: xs, y :: ys => mE sc k x && mE sc v y && mKD sc ps xs ys
  | _, _, _ => false
def mO (sc : Scope) : Ao → Option Expr → Bool
  | .none, none => true
  | .some e, some x => mE sc e x
  | _, _ => false
def mIfs (sc : Scope) : Ao → List Expr → Bool
  | .none, [] => true
  | .some e, [x] => mE sc e x
  | _, _ => false
def mKs (sc : Scope) : List Str → Aes → List Keyword → Bool
  | [], .nil, [] => true
  | k :: ks, .cons e es, ⟨some n, x, _⟩ :: xs => decide (k = n) && mE sc e x && mKs sc ks es xs
  | _, _, _ => false
def mI (sc : Scope) (tg : Expr) : Ai → Expr → Bool
  | .ex e, x => mE sc e x
  | .range1 e, .Call (.Name g _) [x] [] _ => decide (g = ("range" : Str)) && freeB L sc g && mE sc e x
  | .range2 a b, .Call (.Name g _) [x, y] [] _ => decide (g = ("range" : Str)) && freeB L sc g && mE sc a x && mE sc b y
  | .range3 a b c, .Call (.Name g _) [x, y, z] [] _ => decide (g = ("range" : Str)) && freeB L sc g && mE sc a x && mE sc b y && mE sc c z
  | .zip2 a b, .Call (.Name g _) [x, y] [] _ => isTupE tg && decide (g = ("zip" : Str)) && freeB L sc g && mE sc a x && mE sc b y
  | _, _ => false
def mG (fn : Str → Bool) (sc : Scope) : Ag → Expr → Bool
  | .nm i, .Name x _ => decide (N[i]? = some x) && locB sc x && (fn x || onlyLocB sc x)
  | .tp gs, .Tuple xs _ _ => mGs fn sc gs xs
  | _, _ => false
def mGs (fn : Str → Bool) (sc : Scope) : Ags → List Expr → Bool
  | .nil, [] => true
  | .cons g gs, x :: xs => mG fn sc g x && mGs fn sc gs xs
  | _, _ => false
end
end
end Mx

end

section
set_option Elab.async false
set_option linter.all false
set_option maxRecDepth 100000
set_option maxHeartbeats 2000000
/-! Tuples whose object is known: that it has no dict. -/
namespace Mx
open PySem PySem.Spec PyProof.Rows L2
/-- what is wanted of a new tuple -/
abbrev NewT (vs : List V) (H : Hp) (Q : VK) : Prop := ∀ p o, H p = none → o.dict = none → Q (.ref p) (upd H p (.frz o (.tup vs)))
section
variable {X : Cx} {pins : List (Addr × Obj)} {σ : L2.St} {H : Hp} {s : Shared} {Q : VK}
/-- it is laid -/
theorem lay_tup (I : Inv X pins σ H s) {xs : List V} {its : List Value} (r : Vals xs its) (z : xs.length ≤ sizeLine) (q : NewT xs H Q) : EP X pins σ Q (.ref s.heap.objs.size) { s with heap := s.heap.push { cls := .type "tuple", data := .seq its.toArray } } := by
  have hf : H s.heap.objs.size = none := I.hok.fresh (Nat.le_refl _)
  refine ⟨.ref s.heap.objs.size, upd H s.heap.objs.size (.frz { cls := .type "tuple", data := .seq its.toArray } (.tup xs)), I.laid (t' := s.toks) (fun b u e => Heap.get?_push_of_some _ e) (Nat.le_refl _) ?_, rfl, q _ _ hf rfl⟩
  exact ⟨Heap.get?_push_size _ rfl, z, its, r, IsTup.new _ _⟩
end
section
variable {X : Cx} {es : List Expr} {t : TA} {pos : Pos}
def tTupN (t : TA) : TE := fun σ H Q => t σ H fun xs H1 => xs.length ≤ sizeLine ∧ NewT xs H1 Q
theorem pe_tupN {x1} (h : PA X es t) : PE X (.Tuple es x1 pos) (tTupN t) := by
  refine ⟨fun pins s σ H Q I hq => ?_⟩
  exact wpAny_Tuple_spliced (thn (h.run pos pins s σ H _ I hq) fun us s1 ⟨xs, H1, I1, r, z, q⟩ => ⟨by rw [← r.length]; exact z, lay_tup I1 r z q⟩)
/-- t + u -/
def rCatN (K : PySem.W.Frag) : R2 := fun x y H Q => ∃ a b xs ys, x = .ref a ∧ y = .ref b ∧ SqT K H a xs ∧ SqT K H b ys ∧ xs.length + ys.length ≤ sizeLine ∧
  (xs = [] → Q (.ref b) H) ∧ (xs ≠ [] → ys = [] → Q (.ref a) H) ∧ (xs ≠ [] → ys ≠ [] → NewT (xs ++ ys) H Q)
theorem op_catN : OpR X (binaryOp .Add) (rCatN X.K) := by
  intro pins s σ H x y v u Q I rx ry h
  obtain ⟨a, b, xs, ys, rfl, rfl, ha, hb, hz, q0, q1, q2⟩ := h
  cases rx
  cases ry
  obtain ⟨its, r1, p1, _⟩ := I.tuple ha
  obtain ⟨its2, r2, p2, _⟩ := I.tuple hb
  by_cases hx : xs = []
  · subst hx
    cases r1
    exact cat_tup0 p1 p2 ⟨.ref b, H, I, rfl, q0 rfl⟩
  · refine HT.cat_tup p1 p2 (fun z => hx (r1.nil_iff.mp z)) (fun z => ⟨.ref a, H, I, rfl, q1 hx (r2.nil_iff.mp z)⟩) (fun z => ?_) (by rw [← r1.length, ← r2.length]; exact hz)
    exact lay_tup I (r1.append r2) (by rw [List.length_append]; exact hz) (q2 hx fun w => z (r2.nil_iff.mpr w))
/-- t[lo:hi] -/
def rSlN (K : PySem.W.Frag) : V → Option Int → Option Int → Hp → VK → Prop := fun x lo hi H Q => ∃ a xs, x = .ref a ∧ SqT K H a xs ∧
  (HT.sIx xs.length 0 lo = 0 ∧ HT.sIx xs.length xs.length hi = xs.length → Q (.ref a) H) ∧ (¬ (HT.sIx xs.length 0 lo = 0 ∧ HT.sIx xs.length xs.length hi = xs.length) → NewT (cutV xs lo hi) H Q)
theorem sl_tupN : SlR X (rSlN X.K) := by
  intro pins s σ H x v vl vu lo hi sl Q I rx hs pl pu h
  obtain ⟨a, xs, rfl, hx, q1, q2⟩ := h
  cases rx
  obtain ⟨its, r, ht, hz⟩ := I.tuple hx
  have hlen : its.toArray.size = xs.length := by rw [List.size_toArray]; exact r.length.symm
  refine ⟨"tuple", _, PyProof.Rows.slot_tuple_getitem.lookup, ht.typeIs, ?_⟩
  by_cases hw : HT.sIx xs.length 0 lo = 0 ∧ HT.sIx xs.length xs.length hi = xs.length
  · exact getItem_tuple_whole ht hs pl pu (by rw [hlen]; exact hw) ⟨.ref a, H, I, rfl, q1 hw⟩
  · refine HT.getItem_tuple_cut ht hs pl pu (by rw [hlen]; exact hw) ?_ (by rw [hlen]; exact hz)
    rw [hlen]
    exact lay_tup I ((r.drop (HT.sIx xs.length 0 lo)).take (HT.sIx xs.length xs.length hi - HT.sIx xs.length 0 lo)) (Nat.le_trans (cutV_length xs lo hi) hz) (q2 hw)
/-- tuple(x) -/
def rTupN (K : PySem.W.Frag) : List V → Hp → VK → Prop := fun xs H Q => ∃ p ys, xs = [.ref p] ∧ ((SqL K H p ys ∧ NewT ys H Q) ∨ (SqT K H p ys ∧ Q (.ref p) H))
theorem call_tupN : CallR X (.type "tuple") (rTupN X.K) := by
  intro pins s σ H xs us Q I r h
  obtain ⟨p, ys, rfl, h⟩ := h
  obtain ⟨u, rfl, rx⟩ := vals1 r
  cases rx
  rcases h with ⟨hq, q⟩ | ⟨hq, q⟩
  · obtain ⟨its, r', pl, hz⟩ := I.list hq
    have hlen := r'.length
    refine call_tuple_list pl.isList (fun h' kp => ?_) (by simp only [List.size_toArray] <;> omega)
    have I1 : Inv X pins σ H { s with heap := h' } := I.kept (t' := s.toks) kp
    exact lay_tup I1 r' hz q
  · obtain ⟨its, r', pl, hz⟩ := I.tuple hq
    exact call_tuple_same pl ⟨.ref p, H, I, rfl, q⟩
end
end Mx

end

section
set_option Elab.async false
set_option linter.all false
set_option maxRecDepth 100000
set_option maxHeartbeats 2000000
/-! What the small language does is what the layer's readings ask. -/
namespace Mx
open PySem PySem.Spec PyProof.Rows L2

/-- from one state to a later one -/
structure Nx (K : Wr) (Z : List Addr) (G : Hp) (ι : List Addr) (H : Hp) (G' : Hp) (ι' : List Addr) (h' : MH) (H' : Hp) : Prop where
  same : Up G G'
  pre : Pre ι ι'
  hr : HR K Z G' ι' h' H'
  zz : ∀ z ∈ Z, H' z = H z
section
variable {K : Wr} {Z : List Addr} {G G1 G2 : Hp} {ι ι1 ι2 : List Addr} {h h1 h2 : MH} {H H1 H2 : Hp} {α β γ δ : Type} {exc : List Str}
theorem Nx.refl (R : HR K Z G ι h H) : Nx K Z G ι H G ι h H := ⟨Up.refl _, Pre.refl _, R, fun _ _ => rfl⟩
theorem Nx.trans (a : Nx K Z G ι H G1 ι1 h1 H1) (b : Nx K Z G1 ι1 H1 G2 ι2 h2 H2) : Nx K Z G ι H G2 ι2 h2 H2 :=
  ⟨a.same.trans b.same, a.pre.trans b.pre, b.hr, fun z hz => (b.zz z hz).trans (a.zz z hz)⟩

/-- what is wanted behind a run, of a result that stands for one of the layer's -/
def RP (exc : List Str) (K : Wr) (R : Hp → List Addr → α → β → Prop) (Z : List Addr) (G : Hp) (ι : List Addr) (H : Hp) (r : Res α) (Q : β → Hp → Prop) (E : XK) : Prop := match r with
  | .ok a h' => ∀ G' ι' H' b, Nx K Z G ι H G' ι' h' H' → R G' ι' a b → Q b H'
  | .exn c v h' => c ∈ exc ∧ ∀ G' ι' H' C dd x, Nx K Z G ι H G' ι' h' H' → K.mg c = some (.ref C) → G' dd = some (.xd [(("value" : Str), x)]) → RV K G' ι' v x → E (.ref C) (some dd) H'
  | .stuck => False
variable {R : Hp → List Addr → α → β → Prop} {R' : Hp → List Addr → γ → δ → Prop} {E : XK}
theorem RP.later {r : Res α} {Q : β → Hp → Prop} (p : RP exc K R Z G ι H r Q E) (n : Nx K Z G ι H G1 ι1 h1 H1) : RP exc K R Z G1 ι1 H1 r Q E := by
  cases r with
  | ok a h' => exact fun G' ι' H' b n' q => p G' ι' H' b (n.trans n') q
  | exn c v h' => exact ⟨p.1, fun G' ι' H' C dd x n' a b q => p.2 G' ι' H' C dd x (n.trans n') a b q⟩
  | stuck => exact p
theorem RP.bind {r : Res α} {f : α → MH → Res γ} {Q : δ → Hp → Prop} {Q1 : β → Hp → Prop} (p : RP exc K R' Z G ι H (r.bind f) Q E)
    (k : ∀ a h1 G1 ι1 H1 b, Nx K Z G ι H G1 ι1 h1 H1 → R G1 ι1 a b → RP exc K R' Z G1 ι1 H1 (f a h1) Q E → Q1 b H1) : RP exc K R Z G ι H r Q1 E := by
  cases r with
  | ok a h' => exact fun G' ι' H' b n q => k a h' G' ι' H' b n q (RP.later p n)
  | exn c v h' => exact p
  | stuck => exact p
theorem RP.imp {r : Res α} {Q Q' : β → Hp → Prop} (p : RP exc K R Z G ι H r Q E) (k : ∀ a h1 G1 ι1 H1 b, r = .ok a h1 → Nx K Z G ι H G1 ι1 h1 H1 → R G1 ι1 a b → Q b H1 → Q' b H1) : RP exc K R Z G ι H r Q' E := by
  cases r with
  | ok a h' => exact fun G' ι' H' b n q => k a h' G' ι' H' b rfl n q (p G' ι' H' b n q)
  | exn c v h' => exact p
  | stuck => exact p
theorem RP.ok_here {a : α} {b : β} {Q : β → Hp → Prop} (p : RP exc K R Z G ι H (.ok a h) Q E) (hr : HR K Z G ι h H) (r : R G ι a b) : Q b H := p G ι H b (Nx.refl hr) r
end

/-- the readings' relations -/
abbrev rV (K : Wr) : Hp → List Addr → PV → V → Prop := fun G ι x v => RV K G ι x v
abbrev rVs (K : Wr) : Hp → List Addr → List PV → List V → Prop := fun G ι xs vs => RVs K G ι xs vs
abbrev rId {α : Type} : Hp → List Addr → α → α → Prop := fun _ _ a b => a = b
section
variable (exc : List Str) (K : Wr) (W : WX)
/-- an expression's reading: what its run hands on -/
def tE (r : Env' → MH → Res PV) : TE := fun σ H Q => ∃ Z G ι h ρ, HR K Z G ι h H ∧ SR K G ι ρ σ ∧ RP exc K (rV K) Z G ι H (r ρ h) Q (fun cls d H' => W cls d σ H')
def tA (r : Env' → MH → Res (List PV)) : TA := fun σ H Q => ∃ Z G ι h ρ, HR K Z G ι h H ∧ SR K G ι ρ σ ∧ RP exc K (rVs K) Z G ι H (r ρ h) Q (fun cls d H' => W cls d σ H')
def tT (r : Env' → MH → Res Bool) : TT := fun σ H Q => ∃ Z G ι h ρ, HR K Z G ι h H ∧ SR K G ι ρ σ ∧ RP exc K (rId (α := Bool)) Z G ι H (r ρ h) Q (fun cls d H' => W cls d σ H')
def tOi (r : Env' → MH → Res (Option Int)) : TO := fun σ H Q => ∃ Z G ι h ρ, HR K Z G ι h H ∧ SR K G ι ρ σ ∧ RP exc K (rId (α := Option Int)) Z G ι H (r ρ h) Q (fun cls d H' => W cls d σ H')
end
/-- what a def promises: its body's run -/
def spF (exc : List Str) (K : Wr) (len : Nat) (b : List PV → MH → Res PV) : Sp := fun vs H Q E => ∃ Z G ι h as, as.length = len ∧ HR K Z G ι h H ∧ RVs K G ι as vs ∧ RP exc K (rV K) Z G ι H (b as h) Q E

/-! ### weakening -/
theorem _root_.L2.PE.weak {X : Cx} {e : Expr} {t t' : TE} (h : PE X e t) (k : ∀ σ H Q, t' σ H Q → t σ H Q) : PE X e t' := ⟨fun pins s σ H Q I q => h.run pins s σ H Q I (k σ H Q q)⟩
theorem _root_.L2.PT.weak {X : Cx} {e : Expr} {t t' : TT} (h : PT X e t) (k : ∀ σ H Q, t' σ H Q → t σ H Q) : PT X e t' := ⟨fun pins s σ H Q I q => h.run pins s σ H Q I (k σ H Q q)⟩
theorem _root_.L2.PW.weak {X : Cx} {e : Expr} {t t' : TT} (h : PW X e t) (k : ∀ σ H Q, t' σ H Q → t σ H Q) : PW X e t' := ⟨fun wh pins s σ H Q I q => h.run wh pins s σ H Q I (k σ H Q q)⟩
theorem _root_.L2.PA.weak {X : Cx} {es : List Expr} {t t' : TA} (h : PA X es t) (k : ∀ σ H Q, t' σ H Q → t σ H Q) : PA X es t' := ⟨fun pos pins s σ H Q I q => h.run pos pins s σ H Q I (k σ H Q q)⟩
theorem _root_.L2.PO.weak {X : Cx} {e : Option Expr} {t t' : TO} (h : PO X e t) (k : ∀ σ H Q, t' σ H Q → t σ H Q) : PO X e t' := ⟨fun pins s σ H Q I q => h.run pins s σ H Q I (k σ H Q q)⟩
theorem _root_.L2.PSs.weak {X : Cx} {st : List Stmt} {t t' : TS} (h : PSs X st t) (k : ∀ D σ H, t' D σ H → t D σ H) : PSs X st t' := ⟨fun pins s σ H D I q => h.run pins s σ H D I (k D σ H q)⟩
theorem _root_.L2.PS.weak {X : Cx} {st : Stmt} {t t' : TS} (h : PS X st t) (k : ∀ D σ H, t' D σ H → t D σ H) : PS X st t' := ⟨fun pins s σ H D I q => h.run pins s σ H D I (k D σ H q)⟩
end Mx

end

section
set_option Elab.async false
set_option linter.all false
set_option maxRecDepth 100000
set_option maxHeartbeats 2000000
/-! The operators, by values. -/
namespace Mx
open PySem PySem.Spec PyProof.Rows L2

section
variable {X : Cx} {pins : List (Addr × Obj)} {σ : L2.St} {H : Hp} {s : Shared}
/-- a list that is read, as it lies -/
theorem inv_lstR (I : Inv X pins σ H s) {a : Addr} {xs : List V} (h : Rd H a (.lst xs)) : xs.length ≤ sizeLine ∧ ∃ (its : List Value) (n : Nat), Vals xs its ∧ xs.length = its.length ∧ s.heap.get? a = some { cls := .type "list", data := .seq its.toArray n } := by
  obtain ⟨z, its, n, r, e⟩ := h.ok I.hok
  exact ⟨z, its, n, r, r.length, e⟩
def rCatR : R2 := fun x y H Q => ∃ l b xs zs, x = .ref l ∧ y = .ref b ∧ Rd H l (.lst xs) ∧ Rd H b (.lst zs) ∧ xs.length + zs.length ≤ sizeLine ∧ ∀ p, H p = none → Q (.ref p) (upd H p (.lst (xs ++ zs)))
theorem op_catR : OpR X (binaryOp .Add) rCatR := by
  intro pins s σ H x y v u Q I rx ry h
  obtain ⟨l, b, xs, zs, rfl, rfl, hH, hB, hz, q⟩ := h
  cases rx
  cases ry
  obtain ⟨z, its, n, r, hl, e⟩ := inv_lstR I hH
  obtain ⟨z2, its2, n2, r2, hl2, e2⟩ := inv_lstR I hB
  refine PySem.P.add_list e e2 ?_ (by rw [List.size_toArray, List.size_toArray]; omega)
  have ea : its.toArray ++ its2.toArray = (its ++ its2).toArray := by simp
  rw [ea]
  exact ⟨.ref _, _, I.lnew (t' := s.toks) (r.append r2) (by rw [List.length_append]; omega), rfl, q _ I.fresh⟩
def rRepR : R2 := fun x y H Q => ∃ l k xs, x = .ref l ∧ y = .int k ∧ Rd H l (.lst xs) ∧ -(2 ^ 63) ≤ k ∧ k < 2 ^ 63 ∧ xs.length * k.toNat ≤ sizeLine ∧
  ∀ p, H p = none → Q (.ref p) (upd H p (.lst (List.replicate k.toNat xs).flatten))
theorem op_repR : OpR X (binaryOp .Mult) rRepR := by
  intro pins s σ H x y v u Q I rx ry h
  obtain ⟨l, k, xs, rfl, rfl, hH, h1, h2, hz, q⟩ := h
  cases rx
  obtain ⟨t, rfl⟩ := ry
  obtain ⟨z, its, n, r, hl, e⟩ := inv_lstR I hH
  have hlen : its.toArray.size * k.toNat ≤ sizeLine := by rw [List.size_toArray, ← hl]; exact hz
  have hcap : ¬ its.toArray.size * k.toNat > (2 ^ 63 - 1) / 8 := by
    have : (sizeLine : Nat) ≤ (2 ^ 63 - 1) / 8 := by decide
    omega
  have hfit : ¬ (!Builtin.List.listFitsIndex k) = true := by
    rw [fitsIndex_both h1 h2]
    exact Bool.false_ne_true
  have hlong : ¬ Builtin.List.listTooLong (its.toArray.size * k.toNat) = true := by
    rw [notLongL hlen]
    exact Bool.false_ne_true
  have hnew : List.foldl (fun x1 x2 => x1 ++ x2) #[] (List.replicate (if its.toArray.isEmpty = true then 0 else k.toNat) its.toArray) = (List.replicate k.toNat its).flatten.toArray := by
    have f0 : ∀ m : Nat, List.foldl (fun x1 x2 => x1 ++ x2) #[] (List.replicate m its.toArray) = (List.replicate m its).flatten.toArray := fun m => by
      have := foldl_rep its m []
      rw [List.nil_append] at this
      exact this
    rw [f0]
    cases its with
    | nil => simp
    | cons a r' => rw [if_neg (by simp)]
  refine wpAny_binaryOp_repeat_ref (T := "list") (U := "int") (by decide) ⟨_, e, rfl⟩ (fun s' => typeIs_int s' k t) noFill_list_mul F.fills_int_mul F.slot_int_rmul repeat_list F.slot_int_index.lookup
    (call_meets F.slot_int_rmul (typeIs_int s k t) F.entry_int_rmul (F.args_int_rmul_2 _ _) (int___rmul___int_list k t l its.toArray n)
      ⟨e, rfl, ⟨_, e, rfl⟩, call_meets F.slot_list_mul ⟨_, e, rfl⟩ F.entry_list_mul (F.args_list_mul_2 _ _) (AutoListH.list___mul___list_int_3 l its.toArray n k t hfit hcap hlong) ⟨e, ?_⟩⟩)
  rw [hnew]
  exact ⟨.ref _, _, I.lnew (t' := s.toks) (r.rep k.toNat) (by rw [PyProof.Rows.lm_len_rep_flat, Nat.mul_comm]; exact hz), rfl, q _ I.fresh⟩
end

section
variable {K : Wr} {Z : List Addr} {G : Hp} {ι : List Addr} {h : MH} {H : Hp} {exc : List Str} {E : XK} {Q : VK}
/-- the items of a sequence, in the layer's heap -/
inductive SqV (K : Wr) (G : Hp) (ι : List Addr) (H : Hp) (xs : List PV) : PV → V → Prop
  | tup {a : Addr} {ys : List PV} {vs : List V} : ys = xs → SqN K.K H a vs → RVs K G ι xs vs → SqV K G ι H xs (.tup ys) (.ref a)
  | lst {p : PV} {a : Addr} {vs : List V} : (∀ ys, p ≠ .tup ys) → Rd H a (.lst vs) → RVs K G ι xs vs → SqV K G ι H xs p (.ref a)
theorem rd_same {H H' : Hp} {a : Addr} {u : HO} (e : Same H H') (r : Rd H a u) : Rd H' a u := r.elim (fun q => .inl (e _ _ q)) fun ⟨o, q⟩ => .inr ⟨o, e _ _ q⟩
theorem items_of (R : HR K Z G ι h H) {p : PV} {v : V} {xs : List PV} (r : RV K G ι p v) (e : items h p = some xs) : SqV K G ι H xs p v := by
  cases r with
  | tup hs rs => cases e; exact .tup rfl (Same.seqN R.sub hs) rs
  | lst hs rs => cases e; exact .lst (fun _ z => nomatch z) (rd_same R.sub hs) rs
  | @ref n a hn =>
    unfold items at e
    obtain ⟨o, ho, ro⟩ := R.at hn
    simp only [ho] at e
    cases o with
    | lst ys =>
      cases e
      generalize hH : H a = u at ro
      cases ro with
      | lst rs => exact .lst (fun _ z => nomatch z) (.inl hH) rs
    | dic _ => cases e
    | fdic _ => cases e
    | ins _ _ => cases e
  | non => cases e
  | bl _ => cases e
  | int _ => cases e
  | str _ => cases e
  | dic _ _ _ => cases e
  | exn _ _ _ _ => cases e
  | fn _ => cases e
theorem SqV.sq {xs : List PV} {p : PV} {v : V} (q : SqV K G ι H xs p v) : ∃ a vs, v = .ref a ∧ (SqL K.K H a vs ∨ SqT K.K H a vs) ∧ RVs K G ι xs vs := by
  cases q with
  | tup _ h r => exact ⟨_, _, rfl, .inr h.sqT, r⟩
  | lst _ h r => exact ⟨_, _, rfl, .inl (.inl h), r⟩
/-- two tables side by side -/
def RK (K : Wr) (G : Hp) (ι : List Addr) : List (Key × PV) → List (Key × V) → Prop := Paired fun p q => p.1 = q.1 ∧ RV K G ι p.2 q.2
theorem rk_of : ∀ {ps : List (Key × PV)} {qs : List (Key × V)}, ps.map (·.1) = qs.map (·.1) → RVs K G ι (ps.map (·.2)) (qs.map (·.2)) → RK K G ι ps qs
  | [], [], _, _ => .nil
  | [], _ :: _, e, _ => by simp at e
  | _ :: _, [], e, _ => by simp at e
  | p :: ps, q :: qs, e, r => by
    rw [List.map_cons, List.map_cons] at e r
    rw [List.cons.injEq] at e
    obtain ⟨v, ws, e2, r1, r2⟩ := r.cons_inv
    rw [List.cons.injEq] at e2
    obtain ⟨e3, e4⟩ := e2
    exact .cons ⟨e.1, by rw [e3]; exact r1⟩ (rk_of e.2 (by rw [e4]; exact r2))
theorem RK.keys {ps : List (Key × PV)} {qs : List (Key × V)} (r : RK K G ι ps qs) : ps.map (·.1) = qs.map (·.1) := by
  unfold RK at r
  induction r with
  | nil => rfl
  | cons h _ ih => rw [List.map_cons, List.map_cons, ih, h.1]
theorem RK.vals {ps : List (Key × PV)} {qs : List (Key × V)} (r : RK K G ι ps qs) : RVs K G ι (ps.map (·.2)) (qs.map (·.2)) := by
  unfold RK at r
  induction r with
  | nil => exact .nil
  | cons h _ ih => exact .cons h.2 ih
theorem RK.length {ps : List (Key × PV)} {qs : List (Key × V)} (r : RK K G ι ps qs) : ps.length = qs.length := Paired.length r
theorem RK.get {ps : List (Key × PV)} {qs : List (Key × V)} (r : RK K G ι ps qs) (k : Key) : match kget ps k, valV qs k with
    | some x, some v => RV K G ι x v
    | none, none => True
    | _, _ => False := by
  unfold RK at r
  induction r with
  | nil => exact True.intro
  | @cons p q ps qs h t ih =>
    by_cases e : p.1 = k
    · have e' : q.1 = k := h.1.symm.trans e
      have a : kget (p :: ps) k = some p.2 := by simp [kget, List.find?_cons, e]
      rw [a, valV_pos e']; exact h.2
    · have e' : ¬ q.1 = k := fun z => e (h.1.trans z)
      have a : kget (p :: ps) k = kget ps k := by simp [kget, List.find?_cons, e]
      rw [a, valV_neg e']; exact ih
theorem RK.at {ps : List (Key × PV)} {qs : List (Key × V)} (r : RK K G ι ps qs) {k : Key} {x : PV} (e : kget ps k = some x) : ∃ v, valV qs k = some v ∧ RV K G ι x v := by
  have q := r.get k
  rw [e] at q
  cases e2 : valV qs k with
  | none => rw [e2] at q; exact q.elim
  | some v => rw [e2] at q; exact ⟨v, rfl, q⟩
theorem RK.none {ps : List (Key × PV)} {qs : List (Key × V)} (r : RK K G ι ps qs) {k : Key} (e : kget ps k = none) : valV qs k = none := by
  have q := r.get k
  rw [e] at q
  cases e2 : valV qs k with
  | none => rfl
  | some v => rw [e2] at q; exact q.elim
theorem RK.some {ps : List (Key × PV)} {qs : List (Key × V)} (r : RK K G ι ps qs) {k : Key} : (kget ps k).isSome = (valV qs k).isSome := by
  cases e : kget ps k with
  | none => rw [r.none e]; rfl
  | some x =>
    obtain ⟨v, e2, _⟩ := r.at e
    rw [e2]; rfl
theorem RK.any {ps : List (Key × PV)} {qs : List (Key × V)} (r : RK K G ι ps qs) (k : Key) : (ps.any fun p => decide (p.1 = k)) = qs.any fun p => decide (p.1 = k) := by
  unfold RK at r
  induction r with
  | nil => rfl
  | cons h t ih => rw [List.any_cons, List.any_cons, ih, h.1]
theorem RK.repl {ps : List (Key × PV)} {qs : List (Key × V)} (r : RK K G ι ps qs) (k : Key) {x : PV} {v : V} (rx : RV K G ι x v) :
    RK K G ι (ps.map fun p => if p.1 = k then (p.1, x) else p) (qs.map fun p => if p.1 = k then (p.1, v) else p) := by
  unfold RK at r ⊢
  induction r with
  | nil => exact .nil
  | @cons p q ps qs h t ih =>
    rw [List.map_cons, List.map_cons]
    refine .cons ?_ ih
    by_cases e : p.1 = k
    · rw [if_pos e, if_pos (h.1.symm.trans e)]; exact ⟨h.1, rx⟩
    · rw [if_neg e, if_neg fun z => e (h.1.trans z)]; exact h
theorem RK.snoc {ps : List (Key × PV)} {qs : List (Key × V)} (r : RK K G ι ps qs) {k : Key} {x : PV} {v : V} (rx : RV K G ι x v) : RK K G ι (ps ++ [(k, x)]) (qs ++ [(k, v)]) := Paired.snoc r ⟨rfl, rx⟩
theorem RK.put {ps : List (Key × PV)} {qs : List (Key × V)} (r : RK K G ι ps qs) (k : Key) {x : PV} {v : V} (rx : RV K G ι x v) : RK K G ι (kput ps k x) (putK qs k v) := by
  unfold kput putK
  rw [r.any k]
  split
  · exact r.repl k rx
  · exact r.snoc rx
theorem RK.drop {ps : List (Key × PV)} {qs : List (Key × V)} (r : RK K G ι ps qs) (k : Key) : RK K G ι (kdrop ps k) (dropK qs k) := by
  unfold RK at r ⊢
  unfold kdrop dropK
  induction r with
  | nil => exact .nil
  | @cons p q ps qs h t ih =>
    rw [List.filter_cons, List.filter_cons]
    by_cases e : p.1 = k
    · rw [if_neg (by simp [e]), if_neg (by simp [h.1.symm.trans e])]; exact ih
    · rw [if_pos (by simp [e]), if_pos (by simp [show ¬ q.1 = k from fun z => e (h.1.trans z)])]; exact .cons h ih
theorem RK.merge {more : List (Key × PV)} {mv : List (Key × V)} (m : RK K G ι more mv) : ∀ {ps : List (Key × PV)} {qs : List (Key × V)}, RK K G ι ps qs → RK K G ι (kmerge ps more) (mergeK qs mv) := by
  unfold RK at m
  induction m with
  | nil => exact fun r => r
  | @cons p q pr qr h _ ih =>
    intro ps qs r
    show RK K G ι (kmerge (kput ps p.1 p.2) pr) (mergeK (putK qs q.1 q.2) qr)
    rw [← h.1]
    exact ih (r.put p.1 h.2)
theorem RK.mono {G' : Hp} {ι' : List Addr} (hs : Up G G') (hp : Pre ι ι') {ps : List (Key × PV)} {qs : List (Key × V)} (r : RK K G ι ps qs) : RK K G' ι' ps qs := rk_of r.keys (r.vals.mono hs hp)
theorem RK.toO {ps : List (Key × PV)} {qs : List (Key × V)} (r : RK K G ι ps qs) : RO K G ι (.dic ps) (Option.some (HO.dK qs)) := .dic r.keys r.vals
/-- a dict's entries, in the layer's heap -/
theorem ditems_of (R : HR K Z G ι h H) {p : PV} {v : V} {kvs : List (Key × PV)} (r : RV K G ι p v) (e : ditems h p = some kvs) : ∃ a qs, v = .ref a ∧ Rd H a (.dK qs) ∧ RK K G ι kvs qs := by
  cases r with
  | @dic a ks xs qs hd hk rs =>
    have e' : ks.zip xs = kvs := Option.some.inj e
    refine ⟨_, qs, rfl, rd_same R.sub hd, ?_⟩
    have hl : ks.length = xs.length := by rw [hk, rs.length, List.length_map, List.length_map]
    rw [← e']
    refine rk_of ?_ ?_
    · rw [List.map_fst_zip (by omega), hk]
    · rw [List.map_snd_zip (by omega)]; exact rs
  | @ref n a hn =>
    unfold ditems at e
    obtain ⟨o, ho, ro⟩ := R.at hn
    simp only [ho] at e
    generalize hH : H a = u at ro
    cases ro with
    | lst _ => cases e
    | dic hk rs => cases e; exact ⟨a, _, rfl, .inl hH, rk_of hk rs⟩
    | fdic hk rs => cases e; exact ⟨a, _, rfl, .inr ⟨_, hH⟩, rk_of hk rs⟩
    | ins _ _ _ => cases e
  | _ => cases e
theorem keyV {x : PV} {v : V} {k : Key} (r : RV K G ι x v) (e : keyOf x = some k) : v = kV k := by
  cases r <;> first | (cases e; rfl) | cases e
/-- a new list is told -/
theorem mk_lst (R : HR K Z G ι h H) {r : Bool} {xs : List PV} {vs : List V} (rs : RVs K G ι xs vs) (p : RP exc K (rV K) Z G ι H (mkLst r xs h) Q E) : ∀ a, H a = none → Q (.ref a) (upd H a (.lst vs)) := by
  intro a ha
  have ga := R.gnone ha
  have hz : ∀ z ∈ Z, upd H a (.lst vs) z = H z := fun z hz => upd_ne fun e => R.freshZ ha (e ▸ hz)
  cases r with
  | true =>
    have p' : RP exc K (rV K) Z G ι H (.ok (.ref h.length) (h ++ [.lst xs])) Q E := p
    refine p' G (ι ++ [a]) _ _ ⟨Up.refl _, Pre.append _ _, R.alloc ha (.lst (rs.mono (Up.refl _) (Pre.append _ _))), hz⟩ (.ref ?_)
    rw [← R.len]; simp
  | false =>
    have p' : RP exc K (rV K) Z G ι H (.ok (.lst xs) h) Q E := p
    exact p' (upd G a (.lst vs)) ι _ _ ⟨same_upd ga, Pre.refl _, R.laid ha, hz⟩ (.lst (.inl upd_same) (rs.mono (same_upd ga) (Pre.refl _)))
/-- a new tuple -/
theorem mk_tup (R : HR K Z G ι h H) {xs : List PV} {vs : List V} (rs : RVs K G ι xs vs) (p : RP exc K (rV K) Z G ι H (.ok (.tup xs) h) Q E) : NewT vs H Q := by
  intro a o ha ho
  have ga := R.gnone ha
  have hz : ∀ z ∈ Z, upd H a (.frz o (.tup vs)) z = H z := fun z hz => upd_ne fun e => R.freshZ ha (e ▸ hz)
  exact p (upd G a (.frz o (.tup vs))) ι _ _ ⟨same_upd ga, Pre.refl _, R.laid ha, hz⟩ (.tup (.inl ⟨o, upd_same, ho⟩) (rs.mono (same_upd ga) (Pre.refl _)))

/-- what the layer's rule for an operator must give, for a function of the small language -/
def OpS (exc : List Str) (K : Wr) (f : PV → PV → MH → Res PV) (r : R2) : Prop :=
  ∀ (Z : List Addr) (G : Hp) (ι : List Addr) (h : MH) (H : Hp) (x y : PV) (vx vy : V) (Q : VK) (E : XK), HR K Z G ι h H → RV K G ι x vx → RV K G ι y vy → RP exc K (rV K) Z G ι H (f x y h) Q E → r vx vy H Q
theorem Rd.len {X : Cx} {pins : List (Addr × Obj)} {σ : L2.St} {s : Shared} (I : Inv X pins σ H s) {a : Addr} {xs : List V} (h : Rd H a (.lst xs)) : xs.length ≤ sizeLine := (inv_lstR I h).1
def rAddAll (K : PySem.W.Frag) : R2 := fun x y H Q => rI0 (fun i j => .int (i + j)) x y H Q ∨ (∃ i j, x = .str i ∧ y = .str j ∧ i.length + j.length ≤ sizeLine ∧ Q (.str (i ++ j)) H) ∨ rCatN K x y H Q ∨ rCatR x y H Q
theorem op_addAll {X : Cx} : OpR X (binaryOp .Add) (rAddAll X.K) := op_add.or (op_add_str.or (op_catN.or op_catR))
theorem RVs.isNil {xs : List PV} {vs : List V} (r : RVs K G ι xs vs) : vs = [] ↔ xs = [] := by
  cases r with
  | nil => simp
  | cons _ _ => simp
/-- a list's items, in the layer's heap -/
theorem litems_of (R : HR K Z G ι h H) {p : PV} {v : V} {xs : List PV} (r : RV K G ι p v) (e : litems h p = some xs) : ∃ a vs, v = .ref a ∧ Rd H a (.lst vs) ∧ RVs K G ι xs vs := by
  cases r with
  | lst hs rs => cases e; exact ⟨_, _, rfl, rd_same R.sub hs, rs⟩
  | @ref n a hn =>
    unfold litems at e
    obtain ⟨o, ho, ro⟩ := R.at hn
    simp only [ho] at e
    cases o with
    | lst ys =>
      cases e
      generalize hH : H a = u at ro
      cases ro with
      | lst rs => exact ⟨_, _, rfl, .inl hH, rs⟩
    | dic _ => cases e
    | fdic _ => cases e
    | ins _ _ => cases e
  | _ => cases e
theorem ops_add {r : Bool} : OpS exc K (binop .add r) (rAddAll K.K) := by
  intro Z G ι h H x y vx vy Q E R rx ry p
  replace p : RP exc K (rV K) Z G ι H (addop r x y h) Q E := p
  unfold addop at p
  split at p
  · rename_i i j
    rw [rx.int_inv, ry.int_inv]
    exact .inl ⟨i, j, rfl, rfl, RP.ok_here p R (.int _)⟩
  · rename_i i j
    rw [rx.str_inv, ry.str_inv]
    split at p
    · rename_i hz
      exact .inr (.inl ⟨i, j, rfl, rfl, hz, RP.ok_here p R (.str _)⟩)
    · exact p.elim
  · rename_i i j
    split at p
    · rename_i hz
      obtain ⟨a, vs, rfl, h1, r1⟩ := rx.tup_inv
      obtain ⟨b, ws, rfl, h2, r2⟩ := ry.tup_inv
      refine .inr (.inr (.inl ⟨a, b, vs, ws, rfl, rfl, Same.seqT R.sub h1.sqT, Same.seqT R.sub h2.sqT, by rw [← r1.length, ← r2.length]; exact hz, fun e => ?_, fun _ e => ?_, fun _ _ => mk_tup R (r1.append r2) p⟩))
      · rw [r1.isNil] at e
        subst e
        exact RP.ok_here p R (.tup h2 r2)
      · rw [r2.isNil] at e
        subst e
        rw [List.append_nil] at p
        exact RP.ok_here p R (.tup h1 r1)
    · exact p.elim
  · split at p
    · rename_i e1 e2
      split at p
      · rename_i hz
        obtain ⟨a, vs, rfl, h1, r1⟩ := litems_of R rx e1
        obtain ⟨b, ws, rfl, h2, r2⟩ := litems_of R ry e2
        exact .inr (.inr (.inr ⟨a, b, vs, ws, rfl, rfl, h1, h2, by rw [← r1.length, ← r2.length]; exact hz, mk_lst R (r1.append r2) p⟩))
      · exact p.elim
    · exact p.elim
theorem ops_sub {r : Bool} : OpS exc K (binop .sub r) (rI0 fun i j => .int (i - j)) := by
  intro Z G ι h H x y vx vy Q E R rx ry p
  replace p : RP exc K (rV K) Z G ι H (subop x y h) Q E := p
  unfold subop at p
  split at p
  · rename_i i j
    rw [rx.int_inv, ry.int_inv]
    exact ⟨i, j, rfl, rfl, RP.ok_here p R (.int _)⟩
  · exact p.elim
def rMulAll : R2 := fun x y H Q => rI CMulW (fun i j => .int (i * j)) x y H Q ∨ rRepR x y H Q
theorem op_mulAll {X : Cx} : OpR X (binaryOp .Mult) rMulAll := op_mulW.or op_repR
theorem ops_mul {r : Bool} : OpS exc K (binop .mul r) rMulAll := by
  intro Z G ι h H x y vx vy Q E R rx ry p
  replace p : RP exc K (rV K) Z G ι H (mulop r x y h) Q E := p
  unfold mulop at p
  split at p
  · rename_i i j
    rw [rx.int_inv, ry.int_inv]
    split at p
    · rename_i hf
      exact .inl ⟨i, j, rfl, rfl, hf, RP.ok_here p R (.int _)⟩
    · exact p.elim
  · rename_i k _
    rw [ry.int_inv]
    split at p
    · rename_i e1
      split at p
      · rename_i hz
        obtain ⟨a, vs, rfl, h1, r1⟩ := litems_of R rx e1
        exact .inr ⟨a, k, vs, rfl, rfl, h1, hz.1, hz.2.1, by rw [← r1.length]; exact hz.2.2, mk_lst R (r1.rep _) p⟩
      · exact p.elim
    · exact p.elim
  · exact p.elim
def CDivF (_ j : Int) : Prop := j ≠ 0 ∧ j.natAbs.log2 < 9000
theorem op_fdivF {X : Cx} : OpR X (binaryOp .FloorDiv) (rI CDivF fun i j => .int (i.fdiv j)) := opI fun i j _ _ _ _ _ hc q => floordiv_int hc.1 q (.inl (PyProof.noPylong_of_log2 hc.2))
theorem ops_div {r : Bool} : OpS exc K (binop .fdiv r) (rI CDivF fun i j => .int (i.fdiv j)) := by
  intro Z G ι h H x y vx vy Q E R rx ry p
  replace p : RP exc K (rV K) Z G ι H (divop x y h) Q E := p
  unfold divop at p
  split at p
  · rename_i i j
    rw [rx.int_inv, ry.int_inv]
    split at p
    · rename_i hf
      exact ⟨i, j, rfl, rfl, hf, RP.ok_here p R (.int _)⟩
    · exact p.elim
  · exact p.elim
theorem ops_mod {r : Bool} : OpS exc K (binop .mod r) (rI (fun _ j => j ≠ 0) fun i j => .int (i.fmod j)) := by
  intro Z G ι h H x y vx vy Q E R rx ry p
  replace p : RP exc K (rV K) Z G ι H (modop x y h) Q E := p
  unfold modop at p
  split at p
  · rename_i i j
    rw [rx.int_inv, ry.int_inv]
    split at p
    · rename_i hf
      exact ⟨i, j, rfl, rfl, hf, RP.ok_here p R (.int _)⟩
    · exact p.elim
  · exact p.elim
theorem ops_pow {r : Bool} : OpS exc K (binop .pow r) (rI CPow fun i j => .int (i ^ j.toNat)) := by
  intro Z G ι h H x y vx vy Q E R rx ry p
  replace p : RP exc K (rV K) Z G ι H (powop x y h) Q E := p
  unfold powop at p
  split at p
  · rename_i i j
    rw [rx.int_inv, ry.int_inv]
    split at p
    · rename_i hf
      exact ⟨i, j, rfl, rfl, hf, RP.ok_here p R (.int _)⟩
    · exact p.elim
  · exact p.elim

/-! ### comparisons -/
theorem scal_of {x y : PV} {vx vy : V} (rx : RV K G ι x vx) (ry : RV K G ι y vy) (hs : scalP x y = true) : scal vx vy = true ∧ decide (vx = vy) = eqF x y := by
  cases rx <;> cases ry <;> first | (exact absurd (show false = true from hs) Bool.false_ne_true) | (refine ⟨rfl, ?_⟩; first | rfl | exact dec_int | exact dec_bl | exact dec_str | simp [eqF])
mutual
theorem dp_of {rd : Nat → Option PyData} (hs : Same G H) (hrd : ∀ n a d, ι[n]? = some a → rd n = some d → Dp K.K H (.ref a) d) : ∀ {x : PV} {v : V} {d : PyData}, RV K G ι x v → toD rd x = some d → Dp K.K H v d
  | _, _, _, .non, e => by cases e; exact .non
  | _, _, _, .bl b, e => by cases e; exact .bl b
  | _, _, _, .int i, e => by cases e; exact .int i
  | _, _, _, .str x, e => by cases e; exact .str x
  | _, _, _, .tup (xs := xs) h1 r, e => by
    unfold toD at e
    cases q : toDs rd xs with
    | none => rw [q] at e; cases e
    | some ds => rw [q] at e; cases e; exact .tup (Same.seqT hs h1.sqT) (dps_of hs hrd r q)
  | _, _, _, .lst (xs := xs) h1 r, e => by
    unfold toD at e
    cases q : toDs rd xs with
    | none => rw [q] at e; cases e
    | some ds => rw [q] at e; cases e; exact .lst (.inl (rd_same hs h1)) (dps_of hs hrd r q)
  | _, _, _, .dic _ _ _, e => by cases e
  | _, _, _, .ref h1, e => hrd _ _ _ h1 e
  | _, _, _, .exn _ _ _ _, e => by cases e
  | _, _, _, .fn _, e => by cases e
theorem dps_of {rd : Nat → Option PyData} (hs : Same G H) (hrd : ∀ n a d, ι[n]? = some a → rd n = some d → Dp K.K H (.ref a) d) : ∀ {xs : List PV} {vs : List V} {ds : List PyData}, RVs K G ι xs vs → toDs rd xs = some ds → DpAll K.K H vs ds
  | _, _, _, .nil, e => by cases e; exact .nil
  | _, _, _, .cons (x := x) (xs := xs) r t, e => by
    unfold toDs at e
    split at e
    · rename_i q1 q2
      cases e
      exact .cons (dp_of hs hrd r q1) (dps_of hs hrd t q2)
    · cases e
end
theorem rd0_ok (R : HR K Z G ι h H) : ∀ n a d, ι[n]? = some a → rd0 h n = some d → Dp K.K H (.ref a) d := by
  intro n a d hn e
  unfold rd0 at e
  obtain ⟨o, ho, ro⟩ := R.at hn
  rw [ho] at e
  cases o with
  | lst ys =>
    generalize hH : H a = u at ro
    cases ro with
    | lst rs =>
      simp only at e
      cases q : toDs (fun _ => none) ys with
      | none => rw [q] at e; cases e
      | some ds =>
        rw [q] at e; cases e
        exact .lst (.inl (.inl hH)) (dps_of R.sub (fun _ _ _ _ z => by cases z) rs q)
  | dic _ => cases e
  | fdic _ => cases e
  | ins _ _ => cases e
theorem rd1_ok (R : HR K Z G ι h H) : ∀ n a d, ι[n]? = some a → rd1 h n = some d → Dp K.K H (.ref a) d := by
  intro n a d hn e
  unfold rd1 at e
  obtain ⟨o, ho, ro⟩ := R.at hn
  rw [ho] at e
  cases o with
  | lst ys =>
    generalize hH : H a = u at ro
    cases ro with
    | lst rs =>
      simp only at e
      cases q : toDs (rd0 h) ys with
      | none => rw [q] at e; cases e
      | some ds =>
        rw [q] at e; cases e
        exact .lst (.inl (.inl hH)) (dps_of R.sub (rd0_ok R) rs q)
  | dic _ => cases e
  | fdic _ => cases e
  | ins _ _ => cases e
def rEqAll (K : PySem.W.Frag) : R2 := fun x y H Q => rEq x y H Q ∨ rEqD K x y H Q
def rNeAll (K : PySem.W.Frag) : R2 := fun x y H Q => rNe x y H Q ∨ rNeD K x y H Q
theorem op_eqAll {X : Cx} (hu : X.A.units + 64 < cLine) : OpR X (compareOp .Eq) (rEqAll X.K) := op_eq.or (op_eqD hu)
theorem op_neAll {X : Cx} (hu : X.A.units + 64 < cLine) : OpR X (compareOp .NotEq) (rNeAll X.K) := op_ne.or (op_neD hu)
/-- a comparison as a function of the small language -/
def cmpR (op : Co) : PV → PV → MH → Res PV := fun x y h => ofB (cmpop op x y h) h
theorem ops_eq : OpS exc K (cmpR .eq) (rEqAll K.K) := by
  intro Z G ι h H x y vx vy Q E R rx ry p
  replace p : RP exc K (rV K) Z G ι H (ofB (peq h x y) h) Q E := p
  unfold peq at p
  split at p
  · rename_i hs
    obtain ⟨h1, h2⟩ := scal_of rx ry hs
    exact .inl ⟨h1, by rw [h2]; exact RP.ok_here p R (.bl _)⟩
  · unfold peqD at p
    split at p
    · rename_i d e q1 q2
      split at p
      · rename_i hz
        rw [Bool.and_eq_true] at hz
        exact .inr ⟨d, e, dp_of R.sub (rd1_ok R) rx q1, dp_of R.sub (rd1_ok R) ry q2, hz.1, hz.2, RP.ok_here p R (.bl _)⟩
      · exact p.elim
    · exact p.elim
theorem ops_ne : OpS exc K (cmpR .ne) (rNeAll K.K) := by
  intro Z G ι h H x y vx vy Q E R rx ry p
  replace p : RP exc K (rV K) Z G ι H (ofB ((peq h x y).map (!·)) h) Q E := p
  unfold peq at p
  split at p
  · rename_i hs
    obtain ⟨h1, h2⟩ := scal_of rx ry hs
    exact .inl ⟨h1, by rw [h2]; exact RP.ok_here p R (.bl _)⟩
  · unfold peqD at p
    split at p
    · rename_i d e q1 q2
      split at p
      · rename_i hz
        rw [Bool.and_eq_true] at hz
        exact .inr ⟨d, e, dp_of R.sub (rd1_ok R) rx q1, dp_of R.sub (rd1_ok R) ry q2, hz.1, hz.2, RP.ok_here p R (.bl _)⟩
      · exact p.elim
    · exact p.elim
def rLtAll : R2 := fun x y H Q => rI0 (fun i j => .bl (decide (i < j))) x y H Q ∨ ∃ i j, x = .str i ∧ y = .str j ∧ Q (.bl (decide (i.cps.toList < j.cps.toList))) H
def rLeAll : R2 := fun x y H Q => rI0 (fun i j => .bl (decide (i ≤ j))) x y H Q ∨ ∃ i j, x = .str i ∧ y = .str j ∧ Q (.bl (!decide (j.cps.toList < i.cps.toList))) H
def rGtAll : R2 := fun x y H Q => rI0 (fun i j => .bl (decide (j < i))) x y H Q ∨ ∃ i j, x = .str i ∧ y = .str j ∧ Q (.bl (decide (j.cps.toList < i.cps.toList))) H
def rGeAll : R2 := fun x y H Q => rI0 (fun i j => .bl (decide (j ≤ i))) x y H Q ∨ ∃ i j, x = .str i ∧ y = .str j ∧ Q (.bl (!decide (i.cps.toList < j.cps.toList))) H
theorem op_ltAll {X : Cx} : OpR X (compareOp .Lt) rLtAll := op_lt.or op_lt_str
theorem op_leAll {X : Cx} : OpR X (compareOp .LtE) rLeAll := op_le.or op_le_str
theorem op_gtAll {X : Cx} : OpR X (compareOp .Gt) rGtAll := op_gt.or op_gt_str
theorem op_geAll {X : Cx} : OpR X (compareOp .GtE) rGeAll := op_ge.or op_ge_str
theorem ops_lt : OpS exc K (cmpR .lt) rLtAll := by
  intro Z G ι h H x y vx vy Q E R rx ry p
  replace p : RP exc K (rV K) Z G ι H (ofB (ltop x y) h) Q E := p
  unfold ltop at p
  split at p
  · rename_i i j
    rw [rx.int_inv, ry.int_inv]
    exact .inl ⟨i, j, rfl, rfl, RP.ok_here p R (.bl _)⟩
  · rename_i i j
    rw [rx.str_inv, ry.str_inv]
    exact .inr ⟨i, j, rfl, rfl, RP.ok_here p R (.bl _)⟩
  · exact p.elim
theorem ops_le : OpS exc K (cmpR .le) rLeAll := by
  intro Z G ι h H x y vx vy Q E R rx ry p
  replace p : RP exc K (rV K) Z G ι H (ofB (leop x y) h) Q E := p
  unfold leop at p
  split at p
  · rename_i i j
    rw [rx.int_inv, ry.int_inv]
    exact .inl ⟨i, j, rfl, rfl, RP.ok_here p R (.bl _)⟩
  · rename_i i j
    rw [rx.str_inv, ry.str_inv]
    exact .inr ⟨i, j, rfl, rfl, RP.ok_here p R (.bl _)⟩
  · exact p.elim
theorem ops_gt : OpS exc K (cmpR .gt) rGtAll := by
  intro Z G ι h H x y vx vy Q E R rx ry p
  replace p : RP exc K (rV K) Z G ι H (ofB (ltop y x) h) Q E := p
  unfold ltop at p
  split at p
  · rename_i i j
    rw [rx.int_inv, ry.int_inv]
    exact .inl ⟨j, i, rfl, rfl, RP.ok_here p R (.bl _)⟩
  · rename_i i j
    rw [rx.str_inv, ry.str_inv]
    exact .inr ⟨j, i, rfl, rfl, RP.ok_here p R (.bl _)⟩
  · exact p.elim
theorem ops_ge : OpS exc K (cmpR .ge) rGeAll := by
  intro Z G ι h H x y vx vy Q E R rx ry p
  replace p : RP exc K (rV K) Z G ι H (ofB (leop y x) h) Q E := p
  unfold leop at p
  split at p
  · rename_i i j
    rw [rx.int_inv, ry.int_inv]
    exact .inl ⟨j, i, rfl, rfl, RP.ok_here p R (.bl _)⟩
  · rename_i i j
    rw [rx.str_inv, ry.str_inv]
    exact .inr ⟨j, i, rfl, rfl, RP.ok_here p R (.bl _)⟩
  · exact p.elim
theorem isNon_of {x : PV} {v : V} (r : RV K G ι x v) : decide (v = .non) = isNon x := by cases r <;> simp [isNon]
theorem isNon_eq {x : PV} {v : V} (r : RV K G ι x v) (e : isNon x = true) : v = .non := by
  cases r <;> first | rfl | cases e
theorem ops_isN : OpS exc K (cmpR .isN) (fun x y H Q => y = .non ∧ Q (.bl (decide (x = .non))) H) := by
  intro Z G ι h H x y vx vy Q E R rx ry p
  replace p : RP exc K (rV K) Z G ι H (ofB (if isNon y then some (isNon x) else none) h) Q E := p
  split at p
  · rename_i hy
    exact ⟨isNon_eq ry hy, by rw [isNon_of rx]; exact RP.ok_here p R (.bl _)⟩
  · exact p.elim
theorem ops_isntN : OpS exc K (cmpR .isntN) (fun x y H Q => y = .non ∧ Q (.bl (!decide (x = .non))) H) := by
  intro Z G ι h H x y vx vy Q E R rx ry p
  replace p : RP exc K (rV K) Z G ι H (ofB (if isNon y then some (!isNon x) else none) h) Q E := p
  split at p
  · rename_i hy
    exact ⟨isNon_eq ry hy, by rw [isNon_of rx]; exact RP.ok_here p R (.bl _)⟩
  · exact p.elim
theorem flat_of {x : PV} {v : V} (r : RV K G ι x v) (e : flat x = true) : flatV v = true := by
  cases r <;> first | rfl | cases e
theorem flats_of : ∀ {xs : List PV} {vs : List V}, RVs K G ι xs vs → xs.all flat = true → vs.all flatV = true
  | _, _, .nil, _ => rfl
  | _, _, .cons r t, e => by
    rw [List.all_cons, Bool.and_eq_true] at e ⊢
    exact ⟨flat_of r e.1, flats_of t e.2⟩
theorem eqF_of {x y : PV} {vx vy : V} (rx : RV K G ι x vx) (ry : RV K G ι y vy) (fx : flat x = true) (fy : flat y = true) : eqV vx vy = eqF x y := by
  cases rx <;> first | cases fx | skip
  all_goals (cases ry <;> first | rfl | cases fy)
theorem inV_of {x : PV} {vx : V} (rx : RV K G ι x vx) (fx : flat x = true) : ∀ {xs : List PV} {vs : List V}, RVs K G ι xs vs → xs.all flat = true → inV vx vs = xs.any fun y => eqF y x
  | _, _, .nil, _ => rfl
  | _, _, .cons r t, e => by
    rw [List.all_cons, Bool.and_eq_true] at e
    unfold inV
    rw [List.any_cons, List.any_cons, eqF_of r rx e.1 fx]
    have := inV_of rx fx t e.2
    unfold inV at this
    rw [this]
def rInAll (K : PySem.W.Frag) : R2 := fun x y H Q => (∃ i j, x = .str i ∧ y = .str j ∧ Q (.bl (!(Builtin.Str.occurrences j i 0 j.length 1).isEmpty)) H) ∨ rIn K false x y H Q ∨ ∃ a o, y = .ref a ∧ DGet H a x o ∧ Q (.bl o.isSome) H
def rNinAll (K : PySem.W.Frag) : R2 := fun x y H Q => (∃ i j, x = .str i ∧ y = .str j ∧ Q (.bl (!(!(Builtin.Str.occurrences j i 0 j.length 1).isEmpty))) H) ∨ rIn K true x y H Q ∨ ∃ a o, y = .ref a ∧ DGet H a x o ∧ Q (.bl (!o.isSome)) H
theorem op_inD {X : Cx} (hu : X.A.units + 1 < cLine) : OpR X (compareOp .In) (fun x y H Q => ∃ a o, y = .ref a ∧ DGet H a x o ∧ Q (.bl o.isSome) H) := by
  intro pins s σ H x y v u Q I rx ry h
  obtain ⟨a, o, rfl, g, q⟩ := h
  obtain rfl : u = Value.ref a := ry
  exact d_in hu I g rx fun s' I' => ⟨.bl o.isSome, H, I', rfl, q⟩
theorem op_ninD {X : Cx} (hu : X.A.units + 1 < cLine) : OpR X (compareOp .NotIn) (fun x y H Q => ∃ a o, y = .ref a ∧ DGet H a x o ∧ Q (.bl (!o.isSome)) H) := by
  intro pins s σ H x y v u Q I rx ry h
  obtain ⟨a, o, rfl, g, q⟩ := h
  obtain rfl : u = Value.ref a := ry
  exact d_notIn hu I g rx fun s' I' => ⟨.bl (!o.isSome), H, I', rfl, q⟩
theorem op_inAll {X : Cx} (hu : X.A.units + 64 < cLine) : OpR X (compareOp .In) (rInAll X.K) := op_in_str.or (op_in_seq.or (op_inD (Nat.lt_of_le_of_lt (by omega) hu)))
theorem op_ninAll {X : Cx} (hu : X.A.units + 64 < cLine) : OpR X (compareOp .NotIn) (rNinAll X.K) := op_notin_str.or (op_notIn_seq.or (op_ninD (Nat.lt_of_le_of_lt (by omega) hu)))
theorem ops_in : OpS exc K (cmpR .inn) (rInAll K.K) := by
  intro Z G ι h H x y vx vy Q E R rx ry p
  replace p : RP exc K (rV K) Z G ι H (ofB (inop h x y) h) Q E := p
  unfold inop at p
  split at p
  · rename_i i j
    rw [rx.str_inv, ry.str_inv]
    exact .inl ⟨i, j, rfl, rfl, RP.ok_here p R (.bl _)⟩
  · split at p
    · rename_i xs e1
      unfold inSeq at p
      split at p
      · rename_i hf
        rw [Bool.and_eq_true] at hf
        obtain ⟨a, vs, rfl, hq, rs⟩ := (items_of R ry e1).sq
        refine .inr (.inl ⟨a, vs, rfl, hq, flat_of rx hf.1, flats_of rs hf.2, ?_⟩)
        show Q (.bl (inV vx vs)) H
        rw [inV_of rx hf.1 rs hf.2]
        exact RP.ok_here p R (.bl _)
      · exact p.elim
    · split at p
      · rename_i e1 e2
        obtain ⟨a, vs, rfl, hd, rk⟩ := ditems_of R ry e1
        refine .inr (.inr ⟨a, _, rfl, .inl ⟨vs, _, hd, keyV rx e2, rfl⟩, ?_⟩)
        rw [← rk.some]
        exact RP.ok_here p R (.bl _)
      · exact p.elim
theorem ops_nin : OpS exc K (cmpR .nin) (rNinAll K.K) := by
  intro Z G ι h H x y vx vy Q E R rx ry p
  replace p : RP exc K (rV K) Z G ι H (ofB ((inop h x y).map (!·)) h) Q E := p
  unfold inop at p
  split at p
  · rename_i i j
    rw [rx.str_inv, ry.str_inv]
    exact .inl ⟨i, j, rfl, rfl, RP.ok_here p R (.bl _)⟩
  · split at p
    · rename_i xs e1
      unfold inSeq at p
      split at p
      · rename_i hf
        rw [Bool.and_eq_true] at hf
        obtain ⟨a, vs, rfl, hq, rs⟩ := (items_of R ry e1).sq
        refine .inr (.inl ⟨a, vs, rfl, hq, flat_of rx hf.1, flats_of rs hf.2, ?_⟩)
        show Q (.bl (!inV vx vs)) H
        rw [inV_of rx hf.1 rs hf.2]
        exact RP.ok_here p R (.bl _)
      · exact p.elim
    · split at p
      · rename_i e1 e2
        obtain ⟨a, vs, rfl, hd, rk⟩ := ditems_of R ry e1
        refine .inr (.inr ⟨a, _, rfl, .inl ⟨vs, _, hd, keyV rx e2, rfl⟩, ?_⟩)
        rw [← rk.some]
        exact RP.ok_here p R (.bl _)
      · exact p.elim

/-! ### subscripts, slices -/
theorem atI_of {xs : List PV} {vs : List V} (r : RVs K G ι xs vs) {k : Int} {y : PV} (e : atI xs k = some y) : ∃ v, atI vs k = some v ∧ RV K G ι y v := by
  unfold atI at e ⊢
  rw [← r.length]
  cases q : ixN xs.length k with
  | none => rw [q] at e; cases e
  | some j =>
    rw [q] at e
    exact r.get e
def rIxDk : R2 := fun x y H Q => ∃ a v, x = .ref a ∧ DGet H a y (some v) ∧ Q v H
theorem ix_dk {X : Cx} (hu : X.A.units + 1 < cLine) : IxR X rIxDk := by
  intro value slice pins s σ H x y v u Q I rx ry q hs
  obtain ⟨a, z, rfl, g, q⟩ := q
  obtain rfl : v = Value.ref a := rx
  have hT : s.TypeIs (.ref a) "dict" := dict_typeIs I g
  unfold subscriptTail
  refine wpAny_bind ?_
  rw [getitemInPython_of_ne hT.not_modules]
  refine wpAny_bind (wpAny_specialOf hT PySem.F.slot_dict_getitem.lookup ?_)
  have fin : wpAny (model X.prog X.w) X.A (subscripted slice false (.ref a) u) (fun r s₃ => wpAny (model X.prog X.w) X.A (letTemporaryGo value (.ref a) r >>= fun _ => pure r) (EP X pins σ Q) X.xe s₃) X.xe s := by
    rw [hs]
    exact wpAny_operating (d_getItem hu I g ry fun w' s' I' rw' => wpAny_bind (wpAny_letTemporaryGo (wpAny_pure ⟨z, H, I', rw', q⟩)))
  first
    | exact wpAny_pure (wpAny_bind fin)
    | exact wpAny_bind fin
    | exact wpAny_bind (wpAny_pure (wpAny_bind fin))
def rIxAll (K : PySem.W.Frag) : R2 := fun x y H Q => rIx K x y H Q ∨ rIxDk x y H Q
theorem ix_all {X : Cx} (hu : X.A.units + 64 < cLine) : IxR X (rIxAll X.K) := ix_seq.or (ix_dk (Nat.lt_of_le_of_lt (by omega) hu))
theorem ops_ix : OpS exc K ixop (rIxAll K.K) := by
  intro Z G ι h H x y vx vy Q E R rx ry p
  unfold ixop at p
  split at p
  · rename_i i j
    rw [rx.str_inv, ry.int_inv]
    split at p
    · rename_i hz
      split at p
      · rename_i c e
        exact .inl (.inr (.inr ⟨_, _, c, rfl, rfl, hz, e, RP.ok_here p R (.str _)⟩))
      · exact p.elim
    · exact p.elim
  · split at p
    · rename_i kvs k e1 e2
      split at p
      · rename_i z e3
        obtain ⟨a, qs, rfl, hd, rk⟩ := ditems_of R rx e1
        obtain ⟨v, e4, rv⟩ := rk.at e3
        exact .inr ⟨a, v, rfl, .inl ⟨qs, k, hd, keyV ry e2, e4.symm⟩, RP.ok_here p R rv⟩
      · exact p.elim
    · split at p
      · rename_i xs k e1 _ _
        have hk := ry.int_inv
        split at p
        · rename_i y e2
          cases items_of R rx e1 with
          | tup e hq rs =>
            subst e
            obtain ⟨v, e3, rv⟩ := atI_of rs e2
            exact .inl (.inr (.inl ⟨_, _, _, v, rfl, hk, hq.sqT, e3, RP.ok_here p R rv⟩))
          | lst _ hq rs =>
            obtain ⟨v, e3, rv⟩ := atI_of rs e2
            exact .inl (.inl ⟨_, _, _, v, rfl, hk, .inl hq, e3, RP.ok_here p R rv⟩)
        · exact p.elim
      · exact p.elim
theorem cut_of {xs : List PV} {vs : List V} (r : RVs K G ι xs vs) (lo hi : Option Int) : RVs K G ι (cutP xs lo hi) (cutV vs lo hi) := by
  unfold cutP cutV
  rw [← r.length]
  exact (r.drop _).take _
def rSlAll (K : PySem.W.Frag) : V → Option Int → Option Int → Hp → VK → Prop := fun x lo hi H Q => rSlN K x lo hi H Q ∨ (rSlL K x lo hi H Q ∨ rSlS x lo hi H Q)
theorem sl_all {X : Cx} : SlR X (rSlAll X.K) := sl_tupN.or (sl_list.or sl_str)
theorem ops_sl {r : Bool} (R : HR K Z G ι h H) {x : PV} {vx : V} {lo hi : Option Int} (rx : RV K G ι x vx) (p : RP exc K (rV K) Z G ι H (slop r x lo hi h) Q E) : rSlAll K.K vx lo hi H Q := by
  unfold slop at p
  split at p
  · obtain ⟨a, vs, rfl, h1, r1⟩ := rx.tup_inv
    refine .inl ⟨a, vs, rfl, Same.seqT R.sub h1.sqT, fun e => ?_, fun _ => mk_tup R (cut_of r1 _ _) p⟩
    have ec : ∀ {ys : List PV}, HT.sIx ys.length 0 lo = 0 ∧ HT.sIx ys.length ys.length hi = ys.length → cutP ys lo hi = ys := fun {ys} e => by
      unfold cutP
      rw [e.1, e.2, List.drop_zero, Nat.sub_zero, List.take_length]
    rw [← r1.length] at e
    rw [ec e] at p
    exact RP.ok_here p R (.tup h1 r1)
  · rename_i z
    rw [rx.str_inv]
    split at p
    · rename_i hz
      exact .inr (.inr ⟨z, rfl, hz, RP.ok_here p R (.str _)⟩)
    · exact p.elim
  · split at p
    · rename_i xs e1
      obtain ⟨a, vs, rfl, h1, r1⟩ := litems_of R rx e1
      exact .inr (.inl ⟨a, vs, rfl, .inl h1, mk_lst R (cut_of r1 _ _) p⟩)
    · exact p.elim

/-! ### built-ins -/
theorem allB_of : ∀ {xs : List PV} {vs : List V} {bs : List Bool}, RVs K G ι xs vs → allB xs = some bs → vs = bs.map V.bl
  | _, _, _, .nil, e => by cases e; rfl
  | _, _, _, .cons (x := x) (xs := xs) r t, e => by
    cases x with
    | bl b =>
      unfold allB at e
      cases q : allB xs with
      | none => rw [q] at e; cases e
      | some cs =>
        rw [q] at e; cases e
        rw [r.bl_inv, allB_of t q]; rfl
    | _ => cases e
/-- what the layer's rule for a built-in must give -/
def CallS (exc : List Str) (K : Wr) (f : List PV → MH → Res PV) (r : List V → Hp → VK → Prop) : Prop :=
  ∀ (Z : List Addr) (G : Hp) (ι : List Addr) (h : MH) (H : Hp) (xs : List PV) (vs : List V) (Q : VK) (E : XK), HR K Z G ι h H → RVs K G ι xs vs → RP exc K (rV K) Z G ι H (f xs h) Q E → r vs H Q
theorem one_of {xs : List PV} {vs : List V} {f : PV → MH → Res PV} (r : RVs K G ι xs vs) (p : RP exc K (rV K) Z G ι H (match (motive := List PV → Res PV) xs with | [a] => f a h | _ => .stuck) Q E) : ∃ x v, xs = [x] ∧ vs = [v] ∧ RV K G ι x v ∧ RP exc K (rV K) Z G ι H (f x h) Q E := by
  cases r with
  | nil => exact p.elim
  | cons r t =>
    cases t with
    | nil => exact ⟨_, _, rfl, rfl, r, p⟩
    | cons _ _ => exact p.elim
theorem two_of {xs : List PV} {vs : List V} {f : PV → PV → MH → Res PV} (r : RVs K G ι xs vs) (p : RP exc K (rV K) Z G ι H (match (motive := List PV → Res PV) xs with | [a, b] => f a b h | _ => .stuck) Q E) : ∃ x y v w, xs = [x, y] ∧ vs = [v, w] ∧ RV K G ι x v ∧ RV K G ι y w ∧ RP exc K (rV K) Z G ι H (f x y h) Q E := by
  cases r with
  | nil => exact p.elim
  | cons r t =>
    cases t with
    | nil => exact p.elim
    | cons r2 t2 =>
      cases t2 with
      | nil => exact ⟨_, _, _, _, rfl, rfl, r, r2, p⟩
      | cons _ _ => exact p.elim
def rLenD : List V → Hp → VK → Prop := fun xs H Q => ∃ a kvs, xs = [V.ref a] ∧ Rd H a (.dK kvs) ∧ Q (.int kvs.length) H
theorem call_lenDk {X : Cx} : CallR X (.builtin "len") rLenD := by
  intro pins s σ H xs us Q I r q
  obtain ⟨a, kvs, rfl, hd, q⟩ := q
  obtain ⟨u, rfl, rx⟩ := vals1 r
  obtain rfl : u = Value.ref a := rx
  exact d_len I hd fun t s' I' => ⟨.int kvs.length, H, I', ⟨t, rfl⟩, q⟩
def rLenAll (K : PySem.W.Frag) : List V → Hp → VK → Prop := fun xs H Q => (∃ z, xs = [.str z] ∧ z.length ≤ sizeLine ∧ Q (.int z.length) H) ∨ (∃ p ys, xs = [.ref p] ∧ (SqL K H p ys ∨ SqT K H p ys) ∧ Q (.int ys.length) H) ∨ rLenD xs H Q
theorem call_lenAll {X : Cx} : CallR X (.builtin "len") (rLenAll X.K) := call_len_str.or (call_len_seq.or call_lenDk)
theorem calls_len {r : Bool} : CallS exc K (bltop .len r) (rLenAll K.K) := by
  intro Z G ι h H xs vs Q E R rs p
  obtain ⟨x, v, rfl, rfl, rx, p2⟩ := one_of rs p
  clear p
  have p := p2
  clear p2
  unfold lenop at p
  split at p
  · rename_i z
    rw [rx.str_inv]
    split at p
    · rename_i hz
      exact .inl ⟨z, rfl, hz, RP.ok_here p R (.int _)⟩
    · exact p.elim
  · split at p
    · rename_i ys e1
      obtain ⟨a, vs, rfl, hq, rs⟩ := (items_of R rx e1).sq
      refine .inr (.inl ⟨a, vs, rfl, hq, ?_⟩)
      rw [← rs.length]
      exact RP.ok_here p R (.int _)
    · split at p
      · rename_i kvs e1
        obtain ⟨a, qs, rfl, hd, rk⟩ := ditems_of R rx e1
        refine .inr (.inr ⟨a, qs, rfl, hd, ?_⟩)
        rw [← rk.length]
        exact RP.ok_here p R (.int _)
      · exact p.elim
theorem calls_int1 {f : Int → Int} {x : PV} {v : V} (R : HR K Z G ι h H) (rx : RV K G ι x v) (p : RP exc K (rV K) Z G ι H (int1 f x h) Q E) : ∃ i, v = .int i ∧ Q (.int (f i)) H := by
  unfold int1 at p
  split at p
  · rename_i i
    exact ⟨i, rx.int_inv, RP.ok_here p R (.int _)⟩
  · exact p.elim
theorem calls_int2 {f : Int → Int → Int} {x y : PV} {v w : V} (R : HR K Z G ι h H) (rx : RV K G ι x v) (ry : RV K G ι y w) (p : RP exc K (rV K) Z G ι H (int2 f x y h) Q E) : ∃ i j, v = .int i ∧ w = .int j ∧ Q (.int (f i j)) H := by
  unfold int2 at p
  split at p
  · rename_i i j
    exact ⟨i, j, rx.int_inv, ry.int_inv, RP.ok_here p R (.int _)⟩
  · exact p.elim
theorem calls_abs {r : Bool} : CallS exc K (bltop .abs r) (fun xs H Q => ∃ i, xs = [.int i] ∧ Q (.int (if i < 0 then -i else i)) H) := by
  intro Z G ι h H xs vs Q E R rs p
  obtain ⟨x, v, rfl, rfl, rx, p2⟩ := one_of rs p
  clear p
  have p := p2
  clear p2
  obtain ⟨i, rfl, q⟩ := calls_int1 R rx p
  exact ⟨i, rfl, q⟩
theorem calls_min {r : Bool} : CallS exc K (bltop .min r) (fun xs H Q => ∃ i j, xs = [.int i, .int j] ∧ Q (.int (if j < i then j else i)) H) := by
  intro Z G ι h H xs vs Q E R rs p
  obtain ⟨x, y, v, w, rfl, rfl, rx, ry, p2⟩ := two_of rs p
  clear p
  have p := p2
  clear p2
  obtain ⟨i, j, rfl, rfl, q⟩ := calls_int2 R rx ry p
  exact ⟨i, j, rfl, q⟩
theorem calls_max {r : Bool} : CallS exc K (bltop .max r) (fun xs H Q => ∃ i j, xs = [.int i, .int j] ∧ Q (.int (if j > i then j else i)) H) := by
  intro Z G ι h H xs vs Q E R rs p
  obtain ⟨x, y, v, w, rfl, rfl, rx, ry, p2⟩ := two_of rs p
  clear p
  have p := p2
  clear p2
  obtain ⟨i, j, rfl, rfl, q⟩ := calls_int2 R rx ry p
  exact ⟨i, j, rfl, q⟩
theorem calls_gcd {r : Bool} : CallS exc K (bltop .gcd r) rGcd := by
  intro Z G ι h H xs vs Q E R rs p
  obtain ⟨x, y, v, w, rfl, rfl, rx, ry, p2⟩ := two_of rs p
  clear p
  have p := p2
  clear p2
  obtain ⟨i, j, rfl, rfl, q⟩ := calls_int2 R rx ry p
  exact ⟨i, j, rfl, q⟩
theorem calls_int {r : Bool} : CallS exc K (bltop .int r) (fun xs H Q => (∃ i, xs = [.int i] ∧ Q (.int i) H) ∨ ∃ k, xs = [.bl k] ∧ Q (.int (if k then 1 else 0)) H) := by
  intro Z G ι h H xs vs Q E R rs p
  obtain ⟨x, v, rfl, rfl, rx, p2⟩ := one_of rs p
  clear p
  have p := p2
  clear p2
  unfold intop at p
  split at p
  · rename_i i
    rw [rx.int_inv]
    exact .inl ⟨i, rfl, RP.ok_here p R (.int _)⟩
  · rename_i b
    rw [rx.bl_inv]
    exact .inr ⟨b, rfl, RP.ok_here p R (.int _)⟩
  · exact p.elim
theorem calls_tuple {r : Bool} : CallS exc K (bltop .tuple r) (rTupN K.K) := by
  intro Z G ι h H xs vs Q E R rs p
  obtain ⟨x, v, rfl, rfl, rx, p2⟩ := one_of rs p
  clear p
  have p := p2
  clear p2
  unfold tupop at p
  split at p
  · rename_i ys e1
    have hi := items_of R rx e1
    cases hi with
    | tup e hq rs' =>
      subst e
      exact ⟨_, _, rfl, .inr ⟨hq.sqT, RP.ok_here p R rx⟩⟩
    | lst _ hq rs' => exact ⟨_, _, rfl, .inl ⟨.inl hq, mk_tup R rs' p⟩⟩
  · exact p.elim
theorem calls_list {r : Bool} : CallS exc K (bltop .list r) (fun xs H Q => ∃ p ys, xs = [.ref p] ∧ (SqL K.K H p ys ∨ SqT K.K H p ys) ∧ ∀ l, H l = none → Q (.ref l) (upd H l (.lst ys))) := by
  intro Z G ι h H xs vs Q E R rs p
  obtain ⟨x, v, rfl, rfl, rx, p2⟩ := one_of rs p
  clear p
  have p := p2
  clear p2
  unfold lstop at p
  split at p
  · rename_i ys e1
    obtain ⟨a, vs, rfl, hq, rs'⟩ := (items_of R rx e1).sq
    exact ⟨a, vs, rfl, hq, mk_lst R rs' p⟩
  · exact p.elim
theorem calls_bools {f : List Bool → Bool} {x : PV} {v : V} (R : HR K Z G ι h H) (rx : RV K G ι x v) (p : RP exc K (rV K) Z G ι H (boolsop f x h) Q E) : ∃ (a : Addr) (bs : List Bool), v = V.ref a ∧ SqL K.K H a (bs.map V.bl) ∧ Q (.bl (f bs)) H := by
  unfold boolsop at p
  split at p
  · rename_i ys e1
    split at p
    · rename_i bs e2
      obtain ⟨a, vs, rfl, hq, rs'⟩ := litems_of R rx e1
      rw [allB_of rs' e2] at hq
      exact ⟨a, bs, rfl, .inl hq, RP.ok_here p R (.bl _)⟩
    · exact p.elim
  · exact p.elim
theorem calls_any {r : Bool} : CallS exc K (bltop .any r) (rAny K.K) := by
  intro Z G ι h H xs vs Q E R rs p
  obtain ⟨x, v, rfl, rfl, rx, p2⟩ := one_of rs p
  clear p
  have p := p2
  clear p2
  obtain ⟨a, bs, rfl, hq, q⟩ := calls_bools R rx p
  exact ⟨a, bs, rfl, hq, q⟩
theorem calls_all {r : Bool} : CallS exc K (bltop .all r) (rAll K.K) := by
  intro Z G ι h H xs vs Q E R rs p
  obtain ⟨x, v, rfl, rfl, rx, p2⟩ := one_of rs p
  clear p
  have p := p2
  clear p2
  obtain ⟨a, bs, rfl, hq, q⟩ := calls_bools R rx p
  exact ⟨a, bs, rfl, hq, q⟩

/-! ### truth -/
theorem tru_of (R : HR K Z G ι h H) {x : PV} {v : V} {b : Bool} (r : RV K G ι x v) (e : truthy h x = some b) : TruV K.K v H b := by
  cases r with
  | non => cases e; rfl
  | bl _ => cases e; rfl
  | int _ => cases e; rfl
  | str z =>
    replace e : (if z.length ≤ sizeLine then some (z.length != 0) else none) = some b := e
    split at e
    · rename_i hz
      cases e
      refine ⟨hz, ?_⟩
      rw [Bool.eq_iff_iff]
      simp
    · cases e
  | tup hs rs =>
    cases e
    refine .inr (.inl ⟨_, Same.seqT R.sub hs.sqT, ?_⟩)
    cases rs <;> rfl
  | lst hs rs =>
    cases e
    refine .inl ⟨_, .inl (rd_same R.sub hs), ?_⟩
    cases rs <;> rfl
  | dic hs hk rs => cases e
  | @ref n a hn =>
    unfold truthy at e
    obtain ⟨o, ho, ro⟩ := R.at hn
    simp only [ho] at e
    generalize hH : H a = u at ro
    cases ro with
    | lst rs =>
      cases e
      refine .inl ⟨_, .inl (.inl hH), ?_⟩
      cases rs <;> rfl
    | dic hk rs => cases e
    | fdic hk rs => cases e
    | ins _ _ _ => cases e
  | exn _ _ _ _ => cases e
  | fn _ => cases e
/-! ### methods that change a list -/
def rExtR : V → List V → Hp → VK → Prop := fun x vs H Q => ∃ l b xs zs, x = .ref l ∧ vs = [.ref b] ∧ H l = some (.lst xs) ∧ Rd H b (.lst zs) ∧ xs.length + zs.length ≤ sizeLine ∧ Q .non (upd H l (.lst (xs ++ zs)))
theorem mt_extR {X : Cx} : MtM X "list.extend" rExtR := by
  intro pins s σ H x vs v us Q I rx rv h
  obtain ⟨l, b, xs, zs, rfl, rfl, hH, hB, hz, q⟩ := h
  cases rx
  obtain ⟨u, rfl, ru⟩ := rv.one
  cases ru
  obtain ⟨z, its, n, r, hl, e⟩ := I.lstM hH
  obtain ⟨z2, its2, n2, r2, hl2, e2⟩ := inv_lstR I hB
  have hsz : its.toArray.size + its2.toArray.size ≤ sizeLine := by rw [List.size_toArray, List.size_toArray]; omega
  have hlong : ¬ (!its.toArray.isEmpty && Builtin.List.listTooLong (its.toArray.size + its2.toArray.size)) = true := by
    rw [notLongL hsz, Bool.and_false]
    exact Bool.false_ne_true
  refine call_meets F.slot_list_extend ⟨_, e, rfl⟩ F.entry_list_extend (F.args_list_extend_2 _ _)
    (AutoSeq1.list_extend_list_list_0 l its.toArray n b its2.toArray n2 hlong (by rw [List.size_toArray]; omega) (by omega)) ⟨e, e2, ?_⟩
  refine ⟨.non, _, I.lset (its' := its ++ its2) hH e (by simp) (r.append r2) ?_, rfl, q⟩
  rw [List.length_append]
  omega
/-- a changing list, in the layer's heap -/
theorem ref_lst (R : HR K Z G ι h H) {n : Nat} {v : V} {xs : List PV} (rx : RV K G ι (.ref n) v) (e : h[n]? = some (.lst xs)) : ∃ a vs, v = .ref a ∧ ι[n]? = some a ∧ H a = some (.lst vs) ∧ RVs K G ι xs vs := by
  obtain ⟨a, rfl, hn⟩ := rx.ref_inv
  have ro := R.obj n a _ hn e
  generalize hH : H a = u at ro
  cases ro with
  | lst rs => exact ⟨a, _, rfl, hn, hH, rs⟩
/-- it is written -/
theorem put_lst (R : HR K Z G ι h H) {n : Nat} {a : Addr} {xs : List PV} {vs ws : List V} (hn : ι[n]? = some a) (hH : H a = some (.lst ws)) (rs : RVs K G ι xs vs) {Q : Hp → Prop} (p : ∀ G' ι' H', Nx K Z G ι H G' ι' (h.set n (.lst xs)) H' → Q H') : Q (upd H a (.lst vs)) :=
  p G ι _ ⟨Up.refl _, Pre.refl _, R.put hn (fun o w z => by rw [hH] at z; cases z) (.lst rs), fun z hz => upd_ne fun e => (R.zz z hz).2.1 (e ▸ List.mem_of_getElem? hn)⟩
theorem mets_append {x y : PV} {v w : V} (R : HR K Z G ι h H) (rx : RV K G ι x v) (ry : RV K G ι y w) (p : RP exc K (rV K) Z G ι H (appop x y h) Q E) : rAppend v [w] H Q := by
  unfold appop at p
  split at p
  · split at p
    · rename_i xs e
      split at p
      · rename_i hz
        obtain ⟨a, vs, rfl, hn, hH, rs⟩ := ref_lst R rx e
        exact ⟨a, vs, w, rfl, rfl, hH, by rw [← rs.length]; exact hz, put_lst R hn hH (rs.append (.cons ry .nil)) (Q := fun H' => Q .non H') fun G' ι' H' n => p G' ι' H' _ n .non⟩
      · exact p.elim
    · exact p.elim
  · exact p.elim
theorem mets_extend {x y : PV} {v w : V} (R : HR K Z G ι h H) (rx : RV K G ι x v) (ry : RV K G ι y w) (p : RP exc K (rV K) Z G ι H (extop x y h) Q E) : rExtR v [w] H Q := by
  unfold extop at p
  split at p
  · split at p
    · rename_i e e2
      split at p
      · rename_i hz
        obtain ⟨a, vs, rfl, hn, hH, rs⟩ := ref_lst R rx e
        obtain ⟨b, ws, rfl, hB, rs2⟩ := litems_of R ry e2
        exact ⟨a, b, vs, ws, rfl, rfl, hH, hB, by rw [← rs.length, ← rs2.length]; exact hz, put_lst R hn hH (rs.append rs2) (Q := fun H' => Q .non H') fun G' ι' H' n => p G' ι' H' _ n .non⟩
      · exact p.elim
    · exact p.elim
  · exact p.elim
end
end Mx

end

section
set_option Elab.async false
set_option linter.all false
set_option maxRecDepth 100000
set_option maxHeartbeats 2000000
/-! Sorting, dicts made, methods: by values. -/
namespace Mx
open PySem PySem.Spec PyProof.Rows L2
/-- two arrangements in order are one -/
theorem perm_one {α : Type} {le : α → α → Prop} (anti : ∀ a b, le a b → le b a → a = b) : ∀ {l m : List α}, l.Perm m → l.Pairwise le → m.Pairwise le → l = m
  | [], m, p, _, _ => (List.nil_perm.mp p).symm
  | a :: l, [], p, _, _ => absurd p.length_eq (by simp)
  | a :: l, b :: m, p, hl, hm => by
    rw [List.pairwise_cons] at hl hm
    have e : a = b := by
      have h1 : a ∈ b :: m := p.mem_iff.mp List.mem_cons_self
      have h2 : b ∈ a :: l := p.mem_iff.mpr List.mem_cons_self
      rcases List.mem_cons.mp h1 with e | h1
      · exact e
      · rcases List.mem_cons.mp h2 with e | h2
        · exact e.symm
        · exact anti a b (hl.1 b h2) (hm.1 a h1)
    subst e
    rw [perm_one anti (List.perm_cons _ |>.mp p) hl.2 hm.2]
theorem sort_ints {is js : List Int} (p : js.Perm is) (h : js.Pairwise (· ≤ ·)) : js = is.mergeSort fun i j => decide (i ≤ j) := by
  refine perm_one (le := (· ≤ ·)) (fun a b => Int.le_antisymm) (p.trans (List.mergeSort_perm ..).symm) h ?_
  have := List.pairwise_mergeSort (le := fun i j : Int => decide (i ≤ j)) (fun a b c h1 h2 => by simp at h1 h2 ⊢; omega) (fun a b => by simp; omega) is
  exact this.imp fun h => by simpa using h
theorem leS_iff {x y : Str} : leS x y = true ↔ x.cps.toList ≤ y.cps.toList := by
  unfold leS
  rw [Bool.not_eq_true', decide_eq_false_iff_not, List.not_lt]
theorem leS_trans (a b c : Str) (h1 : leS a b = true) (h2 : leS b c = true) : leS a c = true := leS_iff.mpr (List.le_trans (leS_iff.mp h1) (leS_iff.mp h2))
theorem leS_total (a b : Str) : (leS a b || leS b a) = true := by
  rw [Bool.or_eq_true, leS_iff, leS_iff]
  exact List.le_total _ _
theorem leS_anti (a b : Str) (h1 : leS a b = true) (h2 : leS b a = true) : a = b := by
  have := List.le_antisymm (leS_iff.mp h1) (leS_iff.mp h2)
  cases a; cases b
  simp only at this
  rw [Array.toList_inj] at this
  rw [this]
theorem rising_pw : ∀ {l : List Str} {p : Str}, risingS p l = true → (p :: l).Pairwise fun x y => leS x y = true
  | [], p, _ => List.pairwise_singleton _ _
  | x :: r, p, h => by
    have h' : (!ltCps x.cps.toList p.cps.toList && risingS x r) = true := h
    rw [Bool.and_eq_true, ← le_meets] at h'
    have ih := rising_pw h'.2
    rw [List.pairwise_cons]
    refine ⟨fun y hy => ?_, ih⟩
    rcases List.mem_cons.mp hy with rfl | hy
    · exact h'.1
    · exact leS_trans _ _ _ h'.1 ((List.pairwise_cons.mp ih).1 y hy)
theorem sort_strs {ss ts : List Str} (p : ts.Perm ss) (h : sortedS ts = true) : ts = ss.mergeSort leS := by
  refine perm_one (le := fun x y => leS x y = true) leS_anti (p.trans (List.mergeSort_perm ..).symm) ?_ (List.pairwise_mergeSort leS_trans leS_total ss)
  cases ts with
  | nil => exact .nil
  | cons x r => exact rising_pw h
theorem least_ok {is : List Int} {m i : Int} (e : least is = some i) (h1 : m ∈ is) (h2 : ∀ y ∈ is, m ≤ y) : m = i := by
  cases is with
  | nil => cases e
  | cons j js =>
    have e' : js.foldl (fun a b => if b < a then b else a) j = i := Option.some.inj e
    have key : ∀ (l : List Int) (j : Int), (l.foldl (fun a b => if b < a then b else a) j ∈ j :: l) ∧ ∀ y ∈ j :: l, l.foldl (fun a b => if b < a then b else a) j ≤ y := by
      intro l
      induction l with
      | nil => intro j; exact ⟨by simp, fun y hy => by simp at hy; subst hy; exact Int.le_refl _⟩
      | cons b l ih =>
        intro j
        rw [List.foldl_cons]
        obtain ⟨k1, k2⟩ := ih (if b < j then b else j)
        refine ⟨?_, fun y hy => ?_⟩
        · rcases List.mem_cons.mp k1 with k | k
          · rw [k]; split <;> simp
          · exact List.mem_cons_of_mem _ (List.mem_cons_of_mem _ k)
        · have k3 := k2 _ List.mem_cons_self
          rcases List.mem_cons.mp hy with rfl | hy
          · exact Int.le_trans k3 (by split <;> omega)
          · rcases List.mem_cons.mp hy with rfl | hy
            · exact Int.le_trans k3 (by split <;> omega)
            · exact k2 y (List.mem_cons_of_mem _ hy)
    obtain ⟨k1, k2⟩ := key js j
    rw [e'] at k1 k2
    exact Int.le_antisymm (h2 i k1) (k2 m h1)
theorem most_ok {is : List Int} {m i : Int} (e : most is = some i) (h1 : m ∈ is) (h2 : ∀ y ∈ is, y ≤ m) : m = i := by
  cases is with
  | nil => cases e
  | cons j js =>
    have e' : js.foldl (fun a b => if a < b then b else a) j = i := Option.some.inj e
    have key : ∀ (l : List Int) (j : Int), (l.foldl (fun a b => if a < b then b else a) j ∈ j :: l) ∧ ∀ y ∈ j :: l, y ≤ l.foldl (fun a b => if a < b then b else a) j := by
      intro l
      induction l with
      | nil => intro j; exact ⟨by simp, fun y hy => by simp at hy; subst hy; exact Int.le_refl _⟩
      | cons b l ih =>
        intro j
        rw [List.foldl_cons]
        obtain ⟨k1, k2⟩ := ih (if j < b then b else j)
        refine ⟨?_, fun y hy => ?_⟩
        · rcases List.mem_cons.mp k1 with k | k
          · rw [k]; split <;> simp
          · exact List.mem_cons_of_mem _ (List.mem_cons_of_mem _ k)
        · have k3 := k2 _ List.mem_cons_self
          rcases List.mem_cons.mp hy with rfl | hy
          · exact Int.le_trans (by split <;> omega) k3
          · rcases List.mem_cons.mp hy with rfl | hy
            · exact Int.le_trans (by split <;> omega) k3
            · exact k2 y (List.mem_cons_of_mem _ hy)
    obtain ⟨k1, k2⟩ := key js j
    rw [e'] at k1 k2
    exact Int.le_antisymm (k2 m h1) (h2 i k1)
section
variable {K : Wr} {Z : List Addr} {G : Hp} {ι : List Addr} {h : MH} {H : Hp} {exc : List Str} {E : XK} {Q : VK}
theorem ints_of : ∀ {xs : List PV} {vs : List V} {is : List Int}, RVs K G ι xs vs → intsOf xs = some is → vs = is.map V.int
  | _, _, _, .nil, e => by cases e; rfl
  | _, _, _, .cons (x := x) (xs := xs) r t, e => by
    cases x with
    | int b =>
      unfold intsOf at e
      cases q : intsOf xs with
      | none => rw [q] at e; cases e
      | some cs =>
        rw [q] at e; cases e
        rw [r.int_inv, ints_of t q]; rfl
    | _ => cases e
theorem strs_of : ∀ {xs : List PV} {vs : List V} {is : List Str}, RVs K G ι xs vs → strsOf xs = some is → vs = is.map V.str
  | _, _, _, .nil, e => by cases e; rfl
  | _, _, _, .cons (x := x) (xs := xs) r t, e => by
    cases x with
    | str b =>
      unfold strsOf at e
      cases q : strsOf xs with
      | none => rw [q] at e; cases e
      | some cs =>
        rw [q] at e; cases e
        rw [r.str_inv, strs_of t q]; rfl
    | _ => cases e
theorem rv_ints : ∀ is : List Int, RVs K G ι (is.map PV.int) (is.map V.int)
  | [] => .nil
  | i :: is => .cons (.int i) (rv_ints is)
theorem rv_strs : ∀ is : List Str, RVs K G ι (is.map PV.str) (is.map V.str)
  | [] => .nil
  | i :: is => .cons (.str i) (rv_strs is)
/-- a new dict -/
theorem mk_dic (R : HR K Z G ι h H) {kvs : List (Key × PV)} {qs : List (Key × V)} (rk : RK K G ι kvs qs) (p : RP exc K (rV K) Z G ι H (mkDic kvs h) Q E) : ∀ a, H a = none → Q (.ref a) (upd H a (.dK qs)) := by
  intro a ha
  have p' : RP exc K (rV K) Z G ι H (.ok (.ref h.length) (h ++ [.dic kvs])) Q E := p
  refine p' G (ι ++ [a]) _ _ ⟨Up.refl _, Pre.append _ _, R.alloc ha (rk.mono (Up.refl _) (Pre.append _ _)).toO, fun z hz => upd_ne fun e => R.freshZ ha (e ▸ hz)⟩ (.ref ?_)
  rw [← R.len]; simp
def rSortAll (K : PySem.W.Frag) : List V → Hp → VK → Prop := fun vs H Q => rSortedI K vs H Q ∨ rSortedS K vs H Q ∨ ∃ (a : Addr) (kvs : List (Key × V)) (ks : List Str), vs = [.ref a] ∧ Rd H a (.dK kvs) ∧ kvs.map (·.1) = ks.map Sum.inr ∧ ks.length < 64 ∧
    ∀ ys p, ys.Perm ks → sortedS ys = true → H p = none → Q (.ref p) (upd H p (.lst (ys.map V.str)))
theorem cr_sortAll {X : Cx} (hc : X.calm = true) : CallR X (.builtin "sorted") (rSortAll X.K) := cr_sortedI.or (cr_sortedS.or (call_sortedD hc))
theorem keys_strs : ∀ {kvs : List (Key × PV)} {ss : List Str}, strsOf (kvs.map fun p => kP p.1) = some ss → kvs.map (·.1) = ss.map Sum.inr
  | [], ss, e => by cases e; rfl
  | (k, v) :: kvs, ss, e => by
    cases k with
    | inl _ => cases e
    | inr x =>
      have e' : (strsOf (kvs.map fun p => kP p.1)).map (x :: ·) = some ss := e
      cases q : strsOf (kvs.map fun p => kP p.1) with
      | none => rw [q] at e'; cases e'
      | some t =>
        rw [q] at e'; cases e'
        rw [List.map_cons, List.map_cons, keys_strs q]
theorem calls_sorted {r : Bool} : CallS exc K (bltop .sorted r) (rSortAll K.K) := by
  intro Z G ι h H xs vs Q E R rs p
  obtain ⟨x, v, rfl, rfl, rx, p2⟩ := one_of rs p
  clear p
  have p := p2
  clear p2
  unfold sortop at p
  split at p
  · rename_i xs e1
    obtain ⟨a, vs, rfl, hq, rs'⟩ := litems_of R rx e1
    split at p
    · rename_i is e2
      have ev := ints_of rs' e2
      subst ev
      refine .inl ⟨a, is, rfl, .inl hq, fun ns' q hp hs hn => ?_⟩
      rw [sort_ints hp hs]
      exact mk_lst R (rv_ints _) p q hn
    · split at p
      · rename_i ss e2
        have ev := strs_of rs' e2
        subst ev
        split at p
        · rename_i hl
          refine .inr (.inl ⟨a, ss, rfl, .inl hq, hl, fun ys q hp hs hn => ?_⟩)
          rw [sort_strs hp hs]
          exact mk_lst R (rv_strs _) p q hn
        · exact p.elim
      · exact p.elim
  · split at p
    · rename_i kvs e1
      split at p
      · rename_i ss e2
        split at p
        · rename_i hl
          obtain ⟨a, qs, rfl, hd, rk⟩ := ditems_of R rx e1
          refine .inr (.inr ⟨a, qs, ss, rfl, hd, rk.keys.symm.trans (keys_strs e2), hl, fun ys q hp hs hn => ?_⟩)
          rw [sort_strs hp hs]
          exact mk_lst R (rv_strs _) p q hn
        · exact p.elim
      · exact p.elim
    · exact p.elim
theorem calls_sum {r : Bool} : CallS exc K (bltop .sum r) (rSum K.K) := by
  intro Z G ι h H xs vs Q E R rs p
  obtain ⟨x, v, rfl, rfl, rx, p2⟩ := one_of rs p
  clear p
  have p := p2
  clear p2
  unfold sumop at p
  split at p
  · rename_i xs e1
    obtain ⟨a, vs, rfl, hq, rs'⟩ := litems_of R rx e1
    split at p
    · rename_i is e2
      have ev := ints_of rs' e2
      subst ev
      exact ⟨a, is, rfl, .inl hq, RP.ok_here p R (.int _)⟩
    · exact p.elim
  · exact p.elim
theorem calls_one {f : List Int → Option Int} {x : PV} {v : V} (R : HR K Z G ι h H) (rx : RV K G ι x v) (p : RP exc K (rV K) Z G ι H (oneop f x h) Q E) : ∃ (a : Addr) (is : List Int) (i : Int), v = V.ref a ∧ SqL K.K H a (is.map V.int) ∧ f is = some i ∧ Q (.int i) H := by
  unfold oneop at p
  split at p
  · rename_i xs e1
    obtain ⟨a, vs, rfl, hq, rs'⟩ := litems_of R rx e1
    split at p
    · rename_i is e2
      have ev := ints_of rs' e2
      subst ev
      split at p
      · rename_i i e3
        exact ⟨a, is, i, rfl, .inl hq, e3, RP.ok_here p R (.int _)⟩
      · exact p.elim
    · exact p.elim
  · exact p.elim
theorem calls_min1 {r : Bool} : CallS exc K (bltop .min1 r) (rMin K.K) := by
  intro Z G ι h H xs vs Q E R rs p
  obtain ⟨x, v, rfl, rfl, rx, p2⟩ := one_of rs p
  obtain ⟨a, is, i, rfl, hq, e, q⟩ := calls_one R rx p2
  refine ⟨a, is, rfl, hq, ?_, fun m h1 h2 => by rw [least_ok e h1 h2]; exact q⟩
  cases is with
  | nil => cases e
  | cons _ _ => exact Nat.succ_pos _
theorem calls_max1 {r : Bool} : CallS exc K (bltop .max1 r) (rMax K.K) := by
  intro Z G ι h H xs vs Q E R rs p
  obtain ⟨x, v, rfl, rfl, rx, p2⟩ := one_of rs p
  obtain ⟨a, is, i, rfl, hq, e, q⟩ := calls_one R rx p2
  refine ⟨a, is, rfl, hq, ?_, fun m h1 h2 => by rw [most_ok e h1 h2]; exact q⟩
  cases is with
  | nil => cases e
  | cons _ _ => exact Nat.succ_pos _
end
end Mx

end

section
set_option Elab.async false
set_option linter.all false
set_option maxRecDepth 100000
set_option maxHeartbeats 2000000
/-! dict(..) of pairs. -/
namespace Mx
open PySem PySem.Spec PyProof.Rows L2
section
variable {X : Cx} {pins : List (Addr × Obj)} {σ : L2.St} {H : Hp} {s : Shared}
theorem inv_tupN (I : Inv X pins σ H s) {a : Addr} {xs : List V} (h : SqN X.K H a xs) : ∃ its : List Value, Vals xs its ∧ PlainSeq "tuple" s.heap a its.toArray ∧ xs.length ≤ sizeLine := by
  rcases h with ⟨o, h, d⟩ | ⟨o, its, n, hk, hc, hs, hz, r, d⟩
  · obtain ⟨e, z, its, r, o', e', c, n, hd⟩ := (show ObjOk X.prog X.w H s.heap a (.frz o (.tup xs)) from I.hok a _ h)
    rw [e] at e'; cases e'
    exact ⟨its, r, ⟨o, n, e, c, d, hd⟩, z⟩
  · refine ⟨its.toList, r, ⟨o, n, I.kIn a o hk, hc, d, by simpa using hs⟩, ?_⟩
    have e := r.length
    simp only [Array.length_toList] at e
    omega
theorem pairs_at (I : Inv X pins σ H s) : ∀ {ps : List Addr} {kvs : List (Key × V)}, Paired (fun p kv => SqT X.K H p [kV kv.1, kv.2]) ps kvs →
    ∃ (pv : List (Value × Value)) (rs : List (Key × Value)), KV kvs rs ∧ pv.length = ps.length ∧ rs.length = ps.length ∧ ∀ (j : Nat) (k v : Value), pv[j]? = some (k, v) → ∃ key b, rs[j]? = some (key, v) ∧ ps[j]? = some b ∧ IsTup s.heap b #[k, v] ∧ (mixKind X.prog X.w).is key k = true
  | _, _, .nil => ⟨[], [], .nil, rfl, rfl, fun j k v e => by simp at e⟩
  | _, _, .cons (a := p) (b := kv) h t => by
    obtain ⟨pv, rs, r, l1, l2, hp⟩ := pairs_at I t
    obtain ⟨its, rv, ht, _⟩ := I.tuple h
    obtain ⟨u, y, ei, ru, ry⟩ := vals2 rv
    subst ei
    refine ⟨(u, y) :: pv, (kv.1, y) :: rs, .cons ⟨rfl, ry⟩ r, by rw [List.length_cons, List.length_cons, l1], by rw [List.length_cons, List.length_cons, l2], fun j k v e => ?_⟩
    cases j with
    | zero =>
      have e' : (u, y) = (k, v) := Option.some.inj e
      cases e'
      exact ⟨kv.1, p, rfl, rfl, ht, kV_is ru⟩
    | succ j =>
      obtain ⟨key, b, e1, e2, e3, e4⟩ := hp j k v (by simpa using e)
      exact ⟨key, b, by simpa using e1, by simpa using e2, e3, e4⟩
def rDictT (K : PySem.W.Frag) : List V → Hp → VK → Prop := fun xs H Q => ∃ (a : Addr) (ps : List Addr) (kvs : List (Key × V)), xs = [.ref a] ∧ SqN K H a (ps.map V.ref) ∧ Paired (fun p kv => SqT K H p [kV kv.1, kv.2]) ps kvs ∧
    ∀ p, H p = none → Q (.ref p) (upd H p (.dK (mergeK [] kvs)))
theorem new_dict {h' : Heap} {tk : Nat} {Q : VK} (I : Inv X pins σ H s) {kvs : List (Key × V)} {rs : List (Key × Value)} (rel : KV kvs rs) (hz : kvs.length ≤ sizeLine) (hd : h'.DictOf (mixKind X.prog X.w) s.heap.objs.size (merged [] rs))
    (hk : ∀ b o, s.heap.get? b = some o → h'.get? b = some o) (q : ∀ p, H p = none → Q (.ref p) (upd H p (.dK (mergeK [] kvs)))) : EP X pins σ Q (.ref s.heap.objs.size) { s with heap := h', toks := tk } := by
  have hm : (s.heap.objs.size == sysModules) = false := beq_eq_false_iff_ne.mpr (Nat.ne_of_gt I.big)
  have hlen : (mergeK [] kvs).length ≤ sizeLine := by
    refine Nat.le_trans (length_mergeK kvs []) ?_
    rw [List.length_nil, Nat.zero_add]
    exact hz
  exact ⟨.ref s.heap.objs.size, upd H s.heap.objs.size (.dK (mergeK [] kvs)), I.laid (t' := tk) hk (Nat.le_refl _) (show ObjOk X.prog X.w _ _ _ (.dK (mergeK [] kvs)) from ⟨hlen, hm, merged [] rs, KV.merge rel .nil, hd⟩), rfl, q _ (I.hok.fresh (Nat.le_refl _))⟩
theorem call_dictT (hcalm : X.calm = true) : CallR X (.type "dict") (rDictT X.K) := by
  intro pins s σ H xs us Q I r q
  obtain ⟨a, ps, kvs, rfl, hq, hp, q⟩ := q
  obtain ⟨u, rfl, rx⟩ := vals1 r
  obtain rfl : u = Value.ref a := rx
  obtain ⟨its, rv, pl, hz⟩ := inv_tupN I hq
  have ei := refs_at rv
  subst ei
  rw [List.length_map] at hz
  obtain ⟨pv, rs, rel, l1, l2, hpr⟩ := pairs_at I hp
  refine PySem.call_dict_pairs (knd := mixKind X.prog X.w) (kvs := rs) (PairArg.tuple a (ps.map Value.ref).toArray (fun j => (ps[j]?).getD 0) pv) (I.ok.hd hcalm) ⟨pl, ?_, fun j k v e => ?_⟩ ⟨by rw [l2, l1], fun j k v e => ?_⟩ (by rw [l1]; exact hz) fun h' tk hd' hk => ?_
  · simp [l1]
  · obtain ⟨key, b, e1, e2, e3, e4⟩ := hpr j k v e
    obtain ⟨o, ho, hc, n, hd⟩ := e3
    exact ⟨by simp [e2], .inl ⟨o, by show s.heap.get? ((ps[j]?).getD 0) = some o; rw [e2]; exact ho, hc, n, hd⟩⟩
  · obtain ⟨key, b, e1, e2, e3, e4⟩ := hpr j k v e
    exact ⟨key, e1, e4⟩
  · exact new_dict I rel (by rw [rel.length, l2]; exact hz) hd' (fun b o e => hk b o (fun z => nomatch z) e) q
end
section
variable {K : Wr} {Z : List Addr} {G : Hp} {ι : List Addr} {h : MH} {H : Hp} {exc : List Str} {E : XK} {Q : VK}
theorem pairs_rel (hs : Same G H) : ∀ {xs : List PV} {vs : List V} {ps : List (Key × PV)}, RVs K G ι xs vs → pairsOf xs = some ps → ∃ (as : List Addr) (qs : List (Key × V)), vs = as.map V.ref ∧ Paired (fun p kv => SqT K.K H p [kV kv.1, kv.2]) as qs ∧ RK K G ι ps qs
  | _, _, _, .nil, e => by cases e; exact ⟨[], [], rfl, .nil, .nil⟩
  | _, _, ps, .cons (x := x) (xs := xs) r t, e => by
    unfold pairsOf at e
    split at e
    · rename_i heq; cases heq
    · rename_i k v ys heq
      cases heq
      split at e
      · rename_i k' ps' e1 e2
        cases e
        obtain ⟨as, qs, rfl, hp, rk⟩ := pairs_rel hs t e2
        obtain ⟨a, ws, rfl, hN, rws⟩ := r.tup_inv
        obtain ⟨v1, w1, rfl, r1, r2⟩ := rws.cons_inv
        obtain ⟨v2, w2, rfl, r3, r4⟩ := r2.cons_inv
        rw [r4.nil_inv, keyV r1 e1] at hN
        exact ⟨a :: as, (k', v2) :: qs, rfl, .cons (Same.seqT hs hN.sqT) hp, .cons ⟨rfl, r3⟩ rk⟩
      · cases e
    · cases e
def rDictAll (K : PySem.W.Frag) : List V → Hp → VK → Prop := fun xs H Q => (∃ (a : Addr) (kvs : List (Key × V)), xs = [.ref a] ∧ Rd H a (.dK kvs) ∧ ∀ p, H p = none → Q (.ref p) (upd H p (.dK kvs))) ∨
  (∃ (a : Addr) (ps : List Addr) (kvs : List (Key × V)), xs = [.ref a] ∧ SqL K H a (ps.map V.ref) ∧ Paired (fun p kv => SqT K H p [kV kv.1, kv.2]) ps kvs ∧ ∀ p, H p = none → Q (.ref p) (upd H p (.dK (mergeK [] kvs)))) ∨ rDictT K xs H Q
theorem call_dictAll {X : Cx} (hc : X.calm = true) : CallR X (.type "dict") (rDictAll X.K) := call_dictD.or ((call_dictP hc).or (call_dictT hc))
theorem calls_dict {r : Bool} : CallS exc K (bltop .dict r) (rDictAll K.K) := by
  intro Z G ι h H xs vs Q E R rs p
  obtain ⟨x, v, rfl, rfl, rx, p2⟩ := one_of rs p
  clear p
  have p := p2
  clear p2
  unfold dictop at p
  split at p
  · rename_i kvs e1
    obtain ⟨a, qs, rfl, hd, rk⟩ := ditems_of R rx e1
    exact .inl ⟨a, qs, rfl, hd, mk_dic R rk p⟩
  · split at p
    · rename_i xs e1
      split at p
      · rename_i ps e2
        cases items_of R rx e1 with
        | tup e hq rs' =>
          subst e
          obtain ⟨as, qs, rfl, hp, rk⟩ := pairs_rel R.sub rs' e2
          exact .inr (.inr ⟨_, as, qs, rfl, hq, hp, mk_dic R (rk.merge .nil) p⟩)
        | lst _ hq rs' =>
          obtain ⟨as, qs, rfl, hp, rk⟩ := pairs_rel R.sub rs' e2
          exact .inr (.inl ⟨_, as, qs, rfl, .inl hq, hp, mk_dic R (rk.merge .nil) p⟩)
      · exact p.elim
    · exact p.elim
end
end Mx

end

section
set_option Elab.async false
set_option linter.all false
set_option maxRecDepth 100000
set_option maxHeartbeats 4000000
/-! dict(zip(a, b)), a and b lists or tuples. -/
namespace Mx
open PySem PySem.Spec PyProof.Rows L2
section
variable {prog : Program} {w : World} {A : Around} {E : Value → Shared → Prop} {s : Shared} {z TI TO i1 i2 T : Addr} {fp1 fp2 : List Addr} {n1 n2 i : Nat} {P1 P2 : Nat → Value → Prop} {St1 St2 : Nat → Heap → Prop} {f : Bool} {oT : Obj}
/-- the next pair while the last one is still out -/
theorem zh_item {Q : Value → Shared → Prop} (S : ZipSep2 z TI TO i1 i2 fp1 fp2) (D1 : Draws prog w A i1 fp1 n1 P1 St1) (D2 : Draws prog w A i2 fp2 n2 P2 St2)
    (hz : IsZipHeld s.heap z TI TO T f) (hT : s.heap.get? T = some oT) (hTI : IsTupOf2 s.heap TI (.ref i1) (.ref i2)) (st1 : St1 i s.heap) (st2 : St2 i s.heap) (l1 : i < n1) (l2 : i < n2)
    (hQ : ∀ x y h' tk, P1 i x → P2 i y → IsZipHeld h' z TI TO T true → St1 (i + 1) h' → St2 (i + 1) h' → IsTupOf2 h' s.heap.objs.size x y →
      (∀ c o, c ≠ z → c ≠ i1 → c ≠ i2 → s.heap.get? c = some o → h'.get? c = some o) → Q (.ref s.heap.objs.size) { s with heap := h', toks := tk }) :
    wpAny (model prog w) A (Builtin.«zip.__next__» ⟨[.ref z], []⟩) (fun fin s' => ∃ v, fin = .done (.ret v) ∧ Q v s') E s := by
  obtain ⟨hp, g, d, tk0, os⟩ := s
  show wpAny _ _ (field (.ref z) 2 >>= _) _ _ _
  refine wpAny_bind (wpAny_field hz rfl (x := .bool false) rfl ?_)
  show wpAny _ _ (field (.ref z) 3 >>= _) _ _ _
  refine wpAny_bind (wpAny_field hz rfl (x := .ref TI) rfl ?_)
  refine wpAny_bind (wpAny_seqItems hTI rfl ?_)
  show wpAny _ _ (Builtin.SmallTypes.ownedTupleIsFree (.ref z) >>= _) _ _ _
  refine wpAny_bind (wpAny_tupleHeld_zip hz hT fun g1 hz1 hs1 => ?_)
  replace hs1 : Heap.SameBut z hp g1 := hs1
  simp only [Bool.false_eq_true, if_false]
  refine wpAny_bind ?_
  rw [← Array.forIn_toList]
  simp only [List.forIn_cons, List.forIn_nil]
  refine wpAny_bind (wpAny_bind (wpAny_holding ?_))
  show wpAny _ _ (Builtin.SmallTypes.nextOf (.ref i1) >>= _) _ _ ⟨g1, g, d, tk0, os⟩
  refine wpAny_bind (D1.item i _ _ _ l1 (D1.over st1 hs1 S.zf1) fun x g2 tk1 hx sn1 hs2 => wpAny_pure ?_)
  replace hs2 : Heap.SameBut i1 g1 g2 := hs2
  refine wpAny_pure ?_
  refine wpAny_bind (wpAny_bind (wpAny_holding ?_))
  show wpAny _ _ (Builtin.SmallTypes.nextOf (.ref i2) >>= _) _ _ ⟨g2, g, d, tk1, os⟩
  refine wpAny_bind (D2.item i _ _ _ l2 (D2.over (D2.over st2 hs1 S.zf2) hs2 S.sep1_2) fun y g3 tk2 hy sn2 hs3 => wpAny_pure ?_)
  replace hs3 : Heap.SameBut i2 g2 g3 := hs3
  refine wpAny_pure (wpAny_pure ?_)
  show wpAny _ _ (newTuple [x, y] >>= _) _ _ _
  refine wpAny_bind (wpAny_newTuple ?_)
  have hsz : g3.objs.size = hp.objs.size := by rw [hs3.1, hs2.1, hs1.1]
  have hz3 : IsZipHeld g3 z TI TO T true := hs3.extBut _ _ S.zi2 (hs2.extBut _ _ S.zi1 hz1)
  have hk : ∀ c o, c ≠ z → c ≠ i1 → c ≠ i2 → hp.get? c = some o → g3.get? c = some o := fun c o c1 c2 c3 e => hs3.extBut _ _ c3 (hs2.extBut _ _ c2 (hs1.extBut _ _ c1 e))
  have hp2 : IsTupOf2 (g3.push { cls := .type "tuple", data := .seq #[x, y] }) g3.objs.size x y := Heap.get?_push_size _ rfl
  have grow : ∀ b o, g3.get? b = some o → (g3.push { cls := .type "tuple", data := .seq #[x, y] }).get? b = some o := fun b o e => Heap.get?_push_of_some _ e
  refine wpAny_pure ⟨_, rfl, ?_⟩
  show Q (.ref g3.objs.size) _
  rw [hsz] at hp2 ⊢
  exact hQ x y _ tk2 hx hy (grow _ _ hz3) (D1.frame _ _ _ (D1.over sn1 hs3 S.sep2_1) fun b _ o e => grow b o e) (D2.frame _ _ _ sn2 fun b _ o e => grow b o e) hp2 fun c o c1 c2 c3 e => grow c o (hk c o c1 c2 c3 e)
theorem zh_end {Q : Fin → Shared → Prop} (S : ZipSep2 z TI TO i1 i2 fp1 fp2) (D1 : Draws prog w A i1 fp1 n1 P1 St1) (D2 : Draws prog w A i2 fp2 n2 P2 St2)
    (hz : IsZipHeld s.heap z TI TO T f) (hT : s.heap.get? T = some oT) (hTI : IsTupOf2 s.heap TI (.ref i1) (.ref i2)) (st1 : St1 i s.heap) (st2 : St2 i s.heap) (l1 : i ≤ n1) (l2 : i ≤ n2) (hend : i = n1 ∨ i = n2)
    (hE : ∀ h' tk e, (∀ c o, c ≠ z → c ≠ i1 → c ≠ i2 → s.heap.get? c = some o → h'.get? c = some o) → (∃ o, h'.get? e = some o ∧ o.cls = .type "StopIteration") → E (.ref e) { s with heap := h', toks := tk }) :
    wpAny (model prog w) A (Builtin.«zip.__next__» ⟨[.ref z], []⟩) Q E s := by
  obtain ⟨hp, g, d, tk0, os⟩ := s
  show wpAny _ _ (field (.ref z) 2 >>= _) _ _ _
  refine wpAny_bind (wpAny_field hz rfl (x := .bool false) rfl ?_)
  show wpAny _ _ (field (.ref z) 3 >>= _) _ _ _
  refine wpAny_bind (wpAny_field hz rfl (x := .ref TI) rfl ?_)
  refine wpAny_bind (wpAny_seqItems hTI rfl ?_)
  show wpAny _ _ (Builtin.SmallTypes.ownedTupleIsFree (.ref z) >>= _) _ _ _
  refine wpAny_bind (wpAny_tupleHeld_zip hz hT fun g1 hz1 hs1 => ?_)
  replace hs1 : Heap.SameBut z hp g1 := hs1
  simp only [Bool.false_eq_true, if_false]
  refine wpAny_bind ?_
  rw [← Array.forIn_toList]
  simp only [List.forIn_cons, List.forIn_nil]
  refine wpAny_bind (wpAny_bind (wpAny_holding ?_))
  show wpAny _ _ (Builtin.SmallTypes.nextOf (.ref i1) >>= _) _ _ ⟨g1, g, d, tk0, os⟩
  by_cases lt1 : i < n1
  · refine wpAny_bind (D1.item i _ _ _ lt1 (D1.over st1 hs1 S.zf1) fun x g2 tk1 hx sn1 hs2 => wpAny_pure ?_)
    replace hs2 : Heap.SameBut i1 g1 g2 := hs2
    refine wpAny_pure ?_
    refine wpAny_bind (wpAny_bind (wpAny_holding ?_))
    show wpAny _ _ (Builtin.SmallTypes.nextOf (.ref i2) >>= _) _ _ ⟨g2, g, d, tk1, os⟩
    have e2 : i = n2 := by omega
    refine wpAny_bind (D2.done ⟨g2, g, d, tk1, os⟩ _ _ (by rw [← e2]; exact D2.over (D2.over st2 hs1 S.zf2) hs2 S.sep1_2) fun g3 e hs3 he => ?_)
    replace hs3 : Heap.ExtBut i2 g2 g3 := hs3
    exact hE g3 tk1 e (fun c o c1 c2 c3 x => hs3 _ _ c3 (hs2.extBut _ _ c2 (hs1.extBut _ _ c1 x))) he
  · have e1 : i = n1 := by omega
    refine wpAny_bind (D1.done ⟨g1, g, d, tk0, os⟩ _ _ (by rw [← e1]; exact D1.over st1 hs1 S.zf1) fun g2 e hs2 he => ?_)
    replace hs2 : Heap.ExtBut i1 g1 g2 := hs2
    exact hE g2 tk0 e (fun c o c1 c2 _ x => hs2 _ _ c2 (hs1.extBut _ _ c1 x)) he
theorem nx_zh_item {Q : Option Value → Shared → Prop} (S : ZipSep2 z TI TO i1 i2 fp1 fp2) (D1 : Draws prog w A.in1 i1 fp1 n1 P1 St1) (D2 : Draws prog w A.in1 i2 fp2 n2 P2 St2)
    (hz : IsZipHeld s.heap z TI TO T f) (hT : s.heap.get? T = some oT) (hTI : IsTupOf2 s.heap TI (.ref i1) (.ref i2)) (st1 : St1 i s.heap) (st2 : St2 i s.heap) (l1 : i < n1) (l2 : i < n2)
    (hQ : ∀ x y h' tk, P1 i x → P2 i y → IsZipHeld h' z TI TO T true → St1 (i + 1) h' → St2 (i + 1) h' → IsTupOf2 h' s.heap.objs.size x y →
      (∀ c o, c ≠ z → c ≠ i1 → c ≠ i2 → s.heap.get? c = some o → h'.get? c = some o) → Q (some (.ref s.heap.objs.size)) { s with heap := h', toks := tk }) :
    wpAny (model prog w) A (pyNext (.ref z)) Q E s := by
  have hTy : s.TypeIs (.ref z) "zip" := ⟨_, hz, rfl⟩
  unfold pyNext
  exact wpAny_bind (wpAny_attempt (wpAny_callSpecial?_slot (name := Str.ofString "__next__") hTy F.slot_zip_next (wpAny_call_entry F.slot_zip_next hTy F.entry_zip_next
    (zh_item S D1 D2 hz hT hTI st1 st2 l1 l2 fun x y h' tk a1 a2 a3 a4 a5 a6 a7 => wpAny_pure (hQ x y h' tk a1 a2 a3 a4 a5 a6 a7)) (F.args_zip_next_1 _))))
theorem nx_zh_end {Q : Option Value → Shared → Prop} (S : ZipSep2 z TI TO i1 i2 fp1 fp2) (D1 : Draws prog w A.in1 i1 fp1 n1 P1 St1) (D2 : Draws prog w A.in1 i2 fp2 n2 P2 St2)
    (hz : IsZipHeld s.heap z TI TO T f) (hT : s.heap.get? T = some oT) (hTI : IsTupOf2 s.heap TI (.ref i1) (.ref i2)) (st1 : St1 i s.heap) (st2 : St2 i s.heap) (l1 : i ≤ n1) (l2 : i ≤ n2) (hend : i = n1 ∨ i = n2)
    (hQ : ∀ h' tk, (∀ c o, c ≠ z → c ≠ i1 → c ≠ i2 → s.heap.get? c = some o → h'.get? c = some o) → Q none { s with heap := h', toks := tk }) :
    wpAny (model prog w) A (pyNext (.ref z)) Q E s := by
  have hTy : s.TypeIs (.ref z) "zip" := ⟨_, hz, rfl⟩
  unfold pyNext
  refine wpAny_bind (wpAny_attempt (wpAny_callSpecial?_slot (name := Str.ofString "__next__") hTy F.slot_zip_next (wpAny_call_entry F.slot_zip_next hTy F.entry_zip_next
    (zh_end S D1 D2 hz hT hTI st1 st2 l1 l2 hend fun h' tk e hk he => ?_) (F.args_zip_next_1 _))))
  obtain ⟨o, ho, hc⟩ := he
  refine wpAny_bind (wpAny_isInstance (T := "StopIteration") (b := true) ⟨o, ho, hc⟩ isSubtype_stop ?_)
  exact wpAny_pure (hQ _ _ hk)
end
/-- what is drawn of a list or a tuple -/
structure Drw (v : Value) (items : Array Value) (o : Obj) (fp : List Addr) (H : Heap → Prop) (St : Addr → Nat → Heap → Prop) : Prop where
  beg : Begins v o H
  at0 : ∀ it h, h.get? it = some o → H h → St it 0 h
  dr : ∀ (prog : Program) (w : World) (A : Around) (it : Addr), A.handled = none → it ∉ fp → Draws prog w A it (it :: fp) items.size (fun i v => items[i]? = some v) (St it)
  live : ∀ it i h, St it i h → ∀ b ∈ it :: fp, ∃ o, h.get? b = some o
  frame : ∀ it i h h', St it i h → (∀ b ∈ it :: fp, ∀ o, h.get? b = some o → h'.get? b = some o) → St it i h'
theorem drw_list (l : Addr) (items : Array Value) : Drw (.ref l) items { cls := .type "list_iterator", data := .fields #[.ref l, .int 0 0] } [l] (fun h => h.IsList l items) (fun it i h => h.IsListIter it l i ∧ h.IsList l items) where
  beg := begins_list l items
  at0 := fun it h e hl => ⟨⟨_, e, rfl, rfl⟩, hl⟩
  dr := fun prog w A it hh hn => Draws.list hh it l (fun e => hn (by simp [e])) items
  live := fun it i h st b hb => by
    obtain ⟨⟨o, ho, _⟩, ⟨o2, ho2, _⟩⟩ := st
    rcases List.mem_cons.mp hb with rfl | hb
    · exact ⟨o, ho⟩
    · obtain rfl : b = l := by simpa using hb
      exact ⟨o2, ho2⟩
  frame := fun it i h h' st hk => ⟨st.1.at fun o e => hk it (by simp) o e, st.2.at fun o e => hk l (by simp) o e⟩
theorem drw_tuple (l : Addr) (items : Array Value) : Drw (.ref l) items { cls := .type "tuple_iterator", data := .fields #[.ref l, .int 0 0] } [l] (fun h => h.IsTuple l items) (fun it i h => h.IsTupleIter it l i ∧ h.IsTuple l items) where
  beg := begins_tuple l items
  at0 := fun it h e hl => ⟨⟨_, e, rfl, rfl⟩, hl⟩
  dr := fun prog w A it hh hn => Draws.tuple hh it l (fun e => hn (by simp [e])) items
  live := fun it i h st b hb => by
    obtain ⟨⟨o, ho, _⟩, ⟨o2, ho2, _⟩⟩ := st
    rcases List.mem_cons.mp hb with rfl | hb
    · exact ⟨o, ho⟩
    · obtain rfl : b = l := by simpa using hb
      exact ⟨o2, ho2⟩
  frame := fun it i h h' st hk => ⟨st.1.at fun o e => hk it (by simp) o e, st.2.at fun o e => hk l (by simp) o e⟩
/-- zip(a, b) as the argument of dict(..) -/
theorem pa_zipD {prog : Program} {w : World} {v1 v2 : Value} {xs ys : Array Value} {o1 o2 : Obj} {f1 f2 : List Addr} {H1 H2 : Heap → Prop} {St1 St2 : Addr → Nat → Heap → Prop} (R1 : Drw v1 xs o1 f1 H1 St1) (R2 : Drw v2 ys o2 f2 H2 St2) {z TI TO i1 i2 : Addr} (S : ZipSep2 z TI TO i1 i2 (i1 :: f1) (i2 :: f2)) (n1 : i1 ∉ f1) (n2 : i2 ∉ f2) :
    PairArg prog w "zip" z (z :: TI :: TO :: ((i1 :: f1) ++ (i2 :: f2))) [z, TO, i1, i2] (min xs.size ys.size) (fun i k v => xs[i]? = some k ∧ ys[i]? = some v)
      (fun h => IsZip h z TI TO .none ∧ IsTupOf2 h TI (.ref i1) (.ref i2) ∧ (∃ a b, IsTupOf2 h TO a b) ∧ St1 i1 0 h ∧ St2 i2 0 h) := by
  have D1 : ∀ A : Around, A.handled = none → Draws prog w A i1 (i1 :: f1) xs.size (fun i v => xs[i]? = some v) (St1 i1) := fun A hh => R1.dr prog w A i1 hh n1
  have D2 : ∀ A : Around, A.handled = none → Draws prog w A i2 (i2 :: f2) ys.size (fun i v => ys[i]? = some v) (St2 i2) := fun A hh => R2.dr prog w A i2 hh n2
  have fr1 := fun i h h' => R1.frame i1 i h h'
  have fr2 := fun i h h' => R2.frame i2 i h h'
  refine { type := fun s ok => ⟨_, ok.1, rfl⟩, notDict := by decide, keep := ?_, there := ?_, sub := ?_, noKeys := ?_, iter := ?_ }
  · rintro h h' ⟨hz, hTI, ⟨a, b, hTO⟩, s1, s2⟩ hk
    exact ⟨hk _ _ hz, hk _ _ hTI, ⟨a, b, hk _ _ hTO⟩, fr1 _ _ _ s1 fun b _ o e => hk b o e, fr2 _ _ _ s2 fun b _ o e => hk b o e⟩
  · rintro h ⟨hz, hTI, ⟨a, b, hTO⟩, s1, s2⟩ c hc
    rcases List.mem_cons.mp hc with rfl | hc
    · exact ⟨_, hz⟩
    rcases List.mem_cons.mp hc with rfl | hc
    · exact ⟨_, hTI⟩
    rcases List.mem_cons.mp hc with rfl | hc
    · exact ⟨_, hTO⟩
    rcases List.mem_append.mp hc with hc | hc
    · exact R1.live _ _ _ s1 c hc
    · exact R2.live _ _ _ s2 c hc
  · intro b hb
    simp only [List.mem_cons, List.not_mem_nil, or_false] at hb
    rcases hb with rfl | rfl | rfl | rfl <;> simp
  · intro A s Q E hA ok h
    exact getAttrOr_miss_zip ok.1 rfl rfl rfl zip_no_keys (by decide +kernel) hA h
  · intro A s d Q E hA ok hd hdf h
    obtain ⟨hz, hTI, ⟨a, b, hTO⟩, s1, s2⟩ := ok
    have hdf' : d ≠ z ∧ d ≠ TI ∧ d ≠ TO ∧ d ∉ i1 :: f1 ∧ d ∉ i2 :: f2 := by
      refine ⟨fun e => hdf (by simp [e]), fun e => hdf (by simp [e]), fun e => hdf (by simp [e]), fun e => hdf ?_, fun e => hdf ?_⟩
      · exact List.mem_cons_of_mem _ (List.mem_cons_of_mem _ (List.mem_cons_of_mem _ (List.mem_append_left _ e)))
      · exact List.mem_cons_of_mem _ (List.mem_cons_of_mem _ (List.mem_cons_of_mem _ (List.mem_append_right _ e)))
    obtain ⟨dz, dTI, dTO, d1, d2⟩ := hdf'
    have di1 : d ≠ i1 := fun e => d1 (by simp [e])
    have di2 : d ≠ i2 := fun e => d2 (by simp [e])
    refine wpAny_pyIter_zip hz (h z [z, TO, i1, i2] (fun i h => IsTupOf2 h TI (.ref i1) (.ref i2) ∧ St1 i1 i h ∧ St2 i2 i h ∧
      ((IsZip h z TI TO .none ∧ ∃ a b, IsTupOf2 h TO a b) ∨ ∃ T f oT, IsZipHeld h z TI TO T f ∧ h.get? T = some oT ∧ T ≠ z ∧ T ≠ i1 ∧ T ≠ i2 ∧ T ≠ d)) s.heap s.toks ?_
      ⟨hTI, s1, s2, .inl ⟨hz, a, b, hTO⟩⟩ (fun _ _ e => e) fun b hb => .inl hb)
    refine { off := ?_, frame := ?_, item := ?_, done := ?_ }
    · intro hm
      simp only [List.mem_cons, List.not_mem_nil, or_false] at hm
      rcases hm with e | e | e | e
      · exact dz e
      · exact dTO e
      · exact di1 e
      · exact di2 e
    · rintro i g1 g2 ⟨hTI, s1, s2, hz⟩ hk
      refine ⟨hk _ _ (Ne.symm dTI) hTI, fr1 _ _ _ s1 fun b hb o e => hk b o (fun q => d1 (q ▸ hb)) e, fr2 _ _ _ s2 fun b hb o e => hk b o (fun q => d2 (q ▸ hb)) e, ?_⟩
      rcases hz with ⟨hz, a, b, hTO⟩ | ⟨T, f, oT, hz, hT, r1, r2, r3, r4⟩
      · exact .inl ⟨hk _ _ (Ne.symm dz) hz, a, b, hk _ _ (Ne.symm dTO) hTO⟩
      · exact .inr ⟨T, f, oT, hk _ _ (Ne.symm dz) hz, hk _ _ r4 hT, r1, r2, r3, r4⟩
    · rintro i s3 Q3 E3 hi ⟨hTI, s1, s2, hz⟩ hds hQ
      have l1 : i < xs.size := Nat.lt_of_lt_of_le hi (Nat.min_le_left ..)
      have l2 : i < ys.size := Nat.lt_of_lt_of_le hi (Nat.min_le_right ..)
      have lt : ∀ {c o}, s3.heap.get? c = some o → s3.heap.objs.size ≠ c := fun e => Nat.ne_of_gt (Heap.lt_size e)
      have m1 : s3.heap.objs.size ≠ i1 := let ⟨_, e⟩ := R1.live _ _ _ s1 i1 List.mem_cons_self; lt e
      have m2 : s3.heap.objs.size ≠ i2 := let ⟨_, e⟩ := R2.live _ _ _ s2 i2 List.mem_cons_self; lt e
      rcases hz with ⟨hz, a, b, hTO⟩ | ⟨T, f, oT, hz, hT, r1, r2, r3, r4⟩
      · refine wpAny_pyNext_zipD2_item S (D1 A.in1 hA) (D2 A.in1 hA) hz hTI hTO s1 s2 l1 l2 fun x y h' tk q1 q2 a1 a2 t1 t2 a5 a6 hk => ?_
        exact hQ s3.heap.objs.size x y h' tk ⟨q1, q2⟩ (.inl ⟨_, a5, rfl, _, rfl⟩)
          ⟨hk _ _ S.TIz S.TITO S.TIi1 S.TIi2 hTI, t1, t2, .inr ⟨s3.heap.objs.size, false, _, a1, a5, lt hz, m1, m2, Nat.ne_of_gt hds⟩⟩
          fun c o hc e => hk c o (fun x => hc (by simp [x])) (fun x => hc (by simp [x])) (fun x => hc (by simp [x])) (fun x => hc (by simp [x])) e
      · refine nx_zh_item S (D1 A.in1 hA) (D2 A.in1 hA) hz hT hTI s1 s2 l1 l2 fun x y h' tk q1 q2 a1 t1 t2 a5 hk => ?_
        exact hQ s3.heap.objs.size x y h' tk ⟨q1, q2⟩ (.inl ⟨_, a5, rfl, _, rfl⟩)
          ⟨hk _ _ S.TIz S.TIi1 S.TIi2 hTI, t1, t2, .inr ⟨T, true, oT, a1, hk _ _ r1 r2 r3 hT, r1, r2, r3, r4⟩⟩
          fun c o hc e => hk c o (fun x => hc (by simp [x])) (fun x => hc (by simp [x])) (fun x => hc (by simp [x])) e
    · rintro s3 Q3 E3 ⟨hTI, s1, s2, hz⟩ hQ
      have hend : min xs.size ys.size = xs.size ∨ min xs.size ys.size = ys.size := by omega
      rcases hz with ⟨hz, a, b, hTO⟩ | ⟨T, f, oT, hz, hT, r1, r2, r3, r4⟩
      · exact wpAny_pyNext_zipD2_end S (D1 A.in1 hA) (D2 A.in1 hA) hz hTI hTO s1 s2 (Nat.min_le_left ..) (Nat.min_le_right ..) hend fun h' tk hk => hQ h' tk fun c o hc e => hk c o (fun x => hc (by simp [x])) (fun x => hc (by simp [x])) (fun x => hc (by simp [x])) (fun x => hc (by simp [x])) e
      · exact nx_zh_end S (D1 A.in1 hA) (D2 A.in1 hA) hz hT hTI s1 s2 (Nat.min_le_left ..) (Nat.min_le_right ..) hend fun h' tk hk => hQ h' tk fun c o hc e => hk c o (fun x => hc (by simp [x])) (fun x => hc (by simp [x])) (fun x => hc (by simp [x])) e
section
variable {X : Cx} {pins : List (Addr × Obj)} {σ : L2.St} {H : Hp} {s : Shared}
/-- a list or a tuple of the layer, as it is drawn -/
theorem drw_of (I : Inv X pins σ H s) {a : Addr} {xs : List V} (h : SqL X.K H a xs ∨ SqT X.K H a xs) : ∃ (its : List Value) (o : Obj) (Hh : Heap → Prop) (St : Addr → Nat → Heap → Prop), Vals xs its ∧ Drw (.ref a) its.toArray o [a] Hh St ∧ Hh s.heap ∧ a < s.heap.objs.size ∧ xs.length ≤ sizeLine := by
  rcases h with h | h
  · obtain ⟨its, rv, p, hz⟩ := I.list h
    exact ⟨its, _, _, _, rv, drw_list a its.toArray, p.isList, p.lt, hz⟩
  · obtain ⟨its, rv, p, hz⟩ := I.tuple h
    obtain ⟨o1, ho1, _⟩ := id p
    exact ⟨its, _, _, _, rv, drw_tuple a its.toArray, (show s.heap.IsTuple a its.toArray from p), Heap.lt_size ho1, hz⟩
def rDz (K : PySem.W.Frag) : List V → Hp → VK → Prop := fun vs H Q => ∃ (a b : Addr) (xs ys : List V) (ks : List Key), vs = [V.ref a, V.ref b] ∧ (SqL K H a xs ∨ SqT K H a xs) ∧ (SqL K H b ys ∨ SqT K H b ys) ∧ xs = ks.map kV ∧ ∀ p, H p = none → Q (.ref p) (upd H p (.dK (mergeK [] (ks.zip ys))))
theorem new_dict2 {d : Addr} {h' : Heap} {tk : Nat} {Q : VK} (I : Inv X pins σ H s) {kvs : List (Key × V)} {rs : List (Key × Value)} (rel : KV kvs rs) (hz : kvs.length ≤ sizeLine) (hle : s.heap.objs.size ≤ d) (hd : h'.DictOf (mixKind X.prog X.w) d (merged [] rs))
    (hk : ∀ b o, s.heap.get? b = some o → h'.get? b = some o) (q : ∀ p, H p = none → Q (.ref p) (upd H p (.dK (mergeK [] kvs)))) : EP X pins σ Q (.ref d) { s with heap := h', toks := tk } := by
  have big : sysModules < d := Nat.lt_of_lt_of_le I.big hle
  have hm : (d == sysModules) = false := beq_eq_false_iff_ne.mpr (Nat.ne_of_gt big)
  have len : (mergeK [] kvs).length ≤ sizeLine := by
    refine Nat.le_trans (length_mergeK kvs []) ?_
    rw [List.length_nil, Nat.zero_add]; exact hz
  exact ⟨.ref d, upd H d (.dK (mergeK [] kvs)), I.laid (t' := tk) hk hle (show ObjOk X.prog X.w _ _ _ (.dK (mergeK [] kvs)) from ⟨len, hm, merged [] rs, KV.merge rel .nil, hd⟩), rfl, q _ (I.hok.fresh hle)⟩
theorem kv_zip {ks : List Key} : ∀ {ys : List V} {us : List Value}, Vals ys us → KV (ks.zip ys) (ks.zip us) := by
  induction ks with
  | nil => intro ys us _; exact .nil
  | cons k ks ih =>
    intro ys us r
    cases r with
    | nil => exact .nil
    | cons r t => exact .cons ⟨rfl, r⟩ (ih t)
theorem keys_is : ∀ {ks : List Key} {us : List Value}, Vals (ks.map kV) us → ks.length = us.length ∧ ∀ (j : Nat) (u : Value), us[j]? = some u → ∃ k, ks[j]? = some k ∧ (mixKind X.prog X.w).is k u = true
  | [], us, r => by
    rw [List.map_nil] at r
    cases r
    exact ⟨rfl, fun j u e => by simp at e⟩
  | k :: ks, us, r => by
    rw [List.map_cons] at r
    cases r with
    | cons r t =>
      obtain ⟨h1, h2⟩ := keys_is t
      refine ⟨by rw [List.length_cons, List.length_cons, h1], fun j u e => ?_⟩
      cases j with
      | zero => cases (show some _ = some u from e); exact ⟨k, rfl, kV_is r⟩
      | succ j => exact h2 j u (by simpa using e)
theorem pe_dz {e e2 : Expr} {ta : TA} {p p2 p3 pos : Pos} {g z : Str} (hgn : g = ("dict" : Str)) (hzn : z = ("zip" : Str)) (hc : X.calm = true) (hgD : Gl X g) (hmD : X.mg g = none) (hgZ : Gl X z) (hmZ : X.mg z = none) (ha : PA X [e, e2] ta)
    (hs : starEach [e, e2] X.env = (false, eval e X.env) :: starEach [e2] X.env) (hpl : (backTo p3 (starEach [e2] X.env)).any (·.1) = false) :
    PE X (.Call (.Name g p) [.Call (.Name z p2) [e, e2] [] p3] [] pos) (tCB (rDz X.K) ta) := by
  subst hgn hzn
  refine ⟨fun pins s σ H Q I h => ?_⟩
  refine wpAny_Call_Name_kw (ld_blt I hgD hmD PyProof.Rows.boot_dict ?_ (by decide) (by decide))
  refine PyProof.Rows.callWith_type1 (Calls.spliced_cons ?_) rfl rfl
  refine Call_ (ld_blt I hgZ hmZ PyProof.Rows.boot_zip (PyProof.Rows.callWith_type1 (thn (ha.run p3 pins s σ H _ I h) fun us s1 ⟨vs, H1, I1, r1, q1⟩ => ?_) hs hpl) (by decide) (by decide))
  obtain ⟨a, b, xs, ys, ks, rfl, hqx, hqy, ex, q⟩ := q1
  obtain ⟨u1, u2, rfl, r2, r3⟩ := r1.two
  cases r2
  cases r3
  obtain ⟨its, o1, Hh1, St1, rv1, R1, k1, lt1, z1⟩ := drw_of I1 hqx
  obtain ⟨its2, o2, Hh2, St2, rv2, R2, k2, lt2, z2⟩ := drw_of I1 hqy
  subst ex
  obtain ⟨hl, hk⟩ := keys_is (X := X) rv1
  refine zip_begins2 R1.beg R2.beg k1 k2 fun h' hz hTI hTO e1 e2 hsz hkp => Calls.spliced_nil ?_
  have I2 : Inv X pins σ H1 { s1 with heap := h' } := I1.kept (t' := s1.toks) hkp
  have kp1 := R1.beg.keeps _ _ k1 hkp
  have kp2 := R2.beg.keeps _ _ k2 hkp
  have S := zip_sep2 (N := s1.heap.objs.size) (fp1 := [a]) (fp2 := [b]) (fun c hc => by rw [List.mem_singleton.mp hc]; exact lt1) (fun c hc => by rw [List.mem_singleton.mp hc]; exact lt2)
  have n1 : s1.heap.objs.size ∉ [a] := fun hm => Nat.ne_of_gt lt1 (List.mem_singleton.mp hm)
  have n2 : s1.heap.objs.size + 1 ∉ [b] := fun hm => by
    have e := List.mem_singleton.mp hm
    have : b = s1.heap.objs.size + 1 := e.symm
    have l : b < s1.heap.objs.size := lt2
    rw [this] at l
    exact Nat.lt_irrefl _ (Nat.lt_of_succ_lt l)
  refine PySem.call_dict_pairs (knd := mixKind X.prog X.w) (kvs := ks.zip its2) (pa_zipD R1 R2 S n1 n2) (I.ok.hd hc) ⟨hz, hTI, ⟨_, _, hTO⟩, R1.at0 _ _ e1 kp1, R2.at0 _ _ e2 kp2⟩ ⟨by rw [List.length_zip, hl]; simp, fun j k v e => ?_⟩ ?_ fun h2 tk hd' hk2 => ?_
  · obtain ⟨ek, ev⟩ := e
    obtain ⟨key, e3, e4⟩ := hk j k (by simpa using ek)
    refine ⟨key, ?_, e4⟩
    rw [List.getElem?_zip_eq_some]
    exact ⟨e3, by simpa using ev⟩
  · have := rv1.length
    rw [List.length_map] at this
    rw [List.length_map] at z1
    simp only [List.size_toArray]
    omega
  · refine new_dict2 (s := s1) (h' := h2) I1 (kv_zip rv2) (by rw [List.length_zip]; rw [List.length_map] at z1; omega) (by show s1.heap.objs.size ≤ h'.objs.size; rw [hsz]; exact Nat.le_add_right _ _) hd' (fun b o e => hk2 b o (fun hm => ?_) (hkp b o e)) q
    have lb : b < s1.heap.objs.size := Heap.lt_size e
    simp only [List.mem_cons, List.not_mem_nil, or_false] at hm
    rcases hm with q | q | q | q
    · rw [q] at lb; exact absurd lb (Nat.not_lt.mpr (Nat.le_add_right _ _))
    · rw [q] at lb; exact absurd lb (Nat.not_lt.mpr (Nat.le_add_right _ _))
    · rw [q] at lb; exact Nat.lt_irrefl _ lb
    · rw [q] at lb; exact absurd lb (Nat.not_lt.mpr (Nat.le_add_right _ _))
end
section
variable {K : Wr} {Z : List Addr} {G : Hp} {ι : List Addr} {h : MH} {H : Hp} {exc : List Str} {E : XK} {Q : VK}
theorem keys_of : ∀ {xs : List PV} {vs : List V} {ks : List Key}, RVs K G ι xs vs → keysOf xs = some ks → vs = ks.map kV
  | _, _, _, .nil, e => by cases e; rfl
  | _, _, ks, .cons (x := x) (xs := xs) r t, e => by
    cases e1 : keyOf x with
    | none => unfold keysOf at e; rw [e1] at e; cases e
    | some k =>
      cases e2 : keysOf xs with
      | none => unfold keysOf at e; rw [e1, e2] at e; cases e
      | some l =>
        unfold keysOf at e
        rw [e1, e2] at e
        cases e
        rw [List.map_cons, keyV r e1, keys_of t e2]
theorem rk_zip {ks : List Key} : ∀ {xs : List PV} {vs : List V}, RVs K G ι xs vs → RK K G ι (ks.zip xs) (ks.zip vs) := by
  induction ks with
  | nil => intro xs vs _; exact .nil
  | cons k ks ih =>
    intro xs vs r
    cases r with
    | nil => exact .nil
    | cons r t => exact .cons ⟨rfl, r⟩ (ih t)
theorem dz_ok {x y : PV} {vx vy : V} (R : HR K Z G ι h H) (rx : RV K G ι x vx) (ry : RV K G ι y vy) (p : RP exc K (rV K) Z G ι H (dzipop x y h) Q E) : rDz K.K [vx, vy] H Q := by
  unfold dzipop at p
  split at p
  · rename_i e1 e2
    split at p
    · rename_i ks e3
      obtain ⟨a, vs, rfl, hq, rs⟩ := (items_of R rx e1).sq
      obtain ⟨b, ws, rfl, hq2, rs2⟩ := (items_of R ry e2).sq
      exact ⟨a, b, vs, ws, ks, rfl, hq, hq2, keys_of rs e3, mk_dic R ((rk_zip rs2).merge .nil) p⟩
    · exact p.elim
  · exact p.elim
end
end Mx

end

section
set_option Elab.async false
set_option linter.all false
set_option maxRecDepth 100000
set_option maxHeartbeats 4000000
/-! Methods by values. -/
namespace Mx
open PySem PySem.Spec PyProof.Rows L2
section
variable {K : Wr} {Z : List Addr} {G : Hp} {ι : List Addr} {h : MH} {H : Hp} {exc : List Str} {E : XK} {Q : VK}
theorem RVs.dropLast {xs : List PV} {vs : List V} (r : RVs K G ι xs vs) : RVs K G ι xs.dropLast vs.dropLast := by
  rw [List.dropLast_eq_take, List.dropLast_eq_take, r.length]
  exact r.take _
theorem mets_pop {x : PV} {v : V} (R : HR K Z G ι h H) (rx : RV K G ι x v) (p : RP exc K (rV K) Z G ι H (popL x h) Q E) : rPop v [] H Q := by
  unfold popL at p
  split at p
  · split at p
    · rename_i xs e
      split at p
      · rename_i y ey
        obtain ⟨a, vs, rfl, hn, hH, rs⟩ := ref_lst R rx e
        obtain ⟨w, ew, rw'⟩ := rs.get ey
        refine ⟨a, vs, w, rfl, rfl, hH, by rw [← rs.length]; exact ew, put_lst R hn hH rs.dropLast (Q := fun H' => Q w H') fun G' ι' H' n => p G' ι' H' _ n (rw'.mono n.same n.pre)⟩
      · exact p.elim
    · exact p.elim
  · exact p.elim
theorem mets_popI {x y : PV} {v w : V} (R : HR K Z G ι h H) (rx : RV K G ι x v) (ry : RV K G ι y w) (p : RP exc K (rV K) Z G ι H (popI x y h) Q E) : rPopAt v [w] H Q := by
  unfold popI at p
  split at p
  · rename_i i
    rw [ry.int_inv]
    split at p
    · rename_i xs e
      split at p
      · rename_i k ek
        split at p
        · rename_i z ez
          split at p
          · rename_i hb
            obtain ⟨a, vs, rfl, hn, hH, rs⟩ := ref_lst R rx e
            obtain ⟨w, ew, rw'⟩ := rs.get ez
            exact ⟨a, vs, i, k, w, rfl, rfl, hH, hb.1, hb.2, by rw [← rs.length]; exact ek, ew, put_lst R hn hH (rs.eraseIdx k) (Q := fun H' => Q w H') fun G' ι' H' n => p G' ι' H' _ n (rw'.mono n.same n.pre)⟩
          · exact p.elim
        · exact p.elim
      · exact p.elim
    · exact p.elim
  · exact p.elim
def rInsert : V → List V → Hp → VK → Prop := fun x vs H Q => ∃ (l : Addr) (xs : List V) (i : Int) (y : V), x = .ref l ∧ vs = [.int i, y] ∧ H l = some (.lst xs) ∧ xs.length < sizeLine ∧ 0 ≤ i ∧ i < 2 ^ 63 ∧
    Q .non (upd H l (.lst (xs.take i.toNat ++ [y] ++ xs.drop i.toNat)))
theorem mets_insert {x y z : PV} {v w u : V} (R : HR K Z G ι h H) (rx : RV K G ι x v) (ry : RV K G ι y w) (rz : RV K G ι z u) (p : RP exc K (rV K) Z G ι H (insop x y z h) Q E) : rInsert v [w, u] H Q := by
  unfold insop at p
  split at p
  · rename_i i
    rw [ry.int_inv]
    split at p
    · rename_i xs e
      split at p
      · rename_i hb
        obtain ⟨a, vs, rfl, hn, hH, rs⟩ := ref_lst R rx e
        exact ⟨a, vs, i, u, rfl, rfl, hH, by rw [← rs.length]; exact hb.1, hb.2.1, hb.2.2, put_lst R hn hH (((rs.take _).append (.cons rz .nil)).append (rs.drop _)) (Q := fun H' => Q .non H') fun G' ι' H' n => p G' ι' H' _ n .non⟩
      · exact p.elim
    · exact p.elim
  · exact p.elim
theorem mets_reverse {x : PV} {v : V} (R : HR K Z G ι h H) (rx : RV K G ι x v) (p : RP exc K (rV K) Z G ι H (revI x h) Q E) : rReverse v [] H Q := by
  unfold revI at p
  split at p
  · split at p
    · rename_i xs e
      obtain ⟨a, vs, rfl, hn, hH, rs⟩ := ref_lst R rx e
      exact ⟨a, vs, rfl, rfl, hH, put_lst R hn hH rs.reverse (Q := fun H' => Q .non H') fun G' ι' H' n => p G' ι' H' _ n .non⟩
    · exact p.elim
  · exact p.elim
theorem mets_clear {x : PV} {v : V} (R : HR K Z G ι h H) (rx : RV K G ι x v) (p : RP exc K (rV K) Z G ι H (clrop x h) Q E) : rClear v [] H Q := by
  unfold clrop at p
  split at p
  · split at p
    · rename_i xs e
      obtain ⟨a, vs, rfl, hn, hH, rs⟩ := ref_lst R rx e
      exact ⟨a, vs, rfl, rfl, hH, put_lst R hn hH .nil (Q := fun H' => Q .non H') fun G' ι' H' n => p G' ι' H' _ n .non⟩
    · exact p.elim
  · exact p.elim
theorem findIdx_first {α : Type} {q : α → Bool} : ∀ {l : List α} {j : Nat}, l.findIdx? q = some j → ∃ z, l[j]? = some z ∧ q z = true ∧ ∀ (m : Nat) (z' : α), m < j → l[m]? = some z' → q z' = false
  | [], j, e => by simp at e
  | a :: l, j, e => by
    rw [List.findIdx?_cons] at e
    by_cases ha : q a = true
    · rw [if_pos ha] at e
      cases e
      exact ⟨a, rfl, ha, fun m z' hm => absurd hm (Nat.not_lt_zero _)⟩
    · rw [if_neg ha] at e
      cases e1 : l.findIdx? q with
      | none => rw [e1] at e; cases e
      | some k =>
        rw [e1] at e
        cases e
        obtain ⟨z, h1, h2, h3⟩ := findIdx_first e1
        refine ⟨z, by simpa using h1, h2, fun m z' hm hz => ?_⟩
        cases m with
        | zero => cases (show some a = some z' from hz); exact Bool.not_eq_true _ |>.mp ha
        | succ m => exact h3 m z' (Nat.lt_of_succ_lt_succ hm) (by simpa using hz)
theorem mets_index {x y : PV} {v w : V} (R : HR K Z G ι h H) (rx : RV K G ι x v) (ry : RV K G ι y w) (p : RP exc K (rV K) Z G ι H (indop x y h) Q E) : rIndexD K.K v [w] H Q := by
  unfold indop at p
  split at p
  · rename_i ds d e1 e2
    split at p
    · rename_i hz
      rw [Bool.and_eq_true] at hz
      split at p
      · rename_i j ej
        obtain ⟨z, h1, h2, h3⟩ := findIdx_first ej
        have d1 := dp_of R.sub (rd1_ok R) rx e1
        obtain ⟨a, rfl⟩ : ∃ a, v = V.ref a := by
          cases d1 with
          | lst _ _ => exact ⟨_, rfl⟩
        exact ⟨a, w, d, ds, j, z, rfl, rfl, d1, dp_of R.sub (rd1_ok R) ry e2, hz.1, hz.2, h1, h2, h3, RP.ok_here p R (.int _)⟩
      · exact p.elim
    · exact p.elim
  · exact p.elim
def rJoin (K : PySem.W.Frag) : V → List V → Hp → VK → Prop := fun x xs H Q => ∃ a p, ∃ ys : List Str, x = .str a ∧ xs = [.ref p] ∧ (SqL K H p (ys.map V.str) ∨ SqT K H p (ys.map V.str)) ∧
    (ys.map (·.length)).sum + ys.length * a.length ≤ 16777216 ∧ Q (.str (Txt.join a ys)) H
theorem mets_join {x y : PV} {v w : V} (R : HR K Z G ι h H) (rx : RV K G ι x v) (ry : RV K G ι y w) (p : RP exc K (rV K) Z G ι H (joinop x y h) Q E) : rJoin K.K v [w] H Q := by
  unfold joinop at p
  split at p
  · rename_i z xs e1
    rw [rx.str_inv]
    split at p
    · rename_i ys e2
      split at p
      · rename_i hz
        obtain ⟨a, vs, rfl, hq, rs⟩ := (items_of R ry e1).sq
        have ev := strs_of rs e2
        subst ev
        exact ⟨z, a, ys, rfl, rfl, hq, hz, RP.ok_here p R (.str _)⟩
      · exact p.elim
    · exact p.elim
  · exact p.elim
theorem mets_upper {x : PV} {v : V} (R : HR K Z G ι h H) (rx : RV K G ι x v) (p : RP exc K (rV K) Z G ι H (uppop x h) Q E) : ∃ a, v = .str a ∧ ([] : List V) = [] ∧ a.length ≤ 5592405 ∧ Q (.str (Txt.upper a)) H := by
  unfold uppop at p
  split at p
  · rename_i z
    rw [rx.str_inv]
    split at p
    · rename_i hz
      exact ⟨z, rfl, rfl, hz, RP.ok_here p R (.str _)⟩
    · exact p.elim
  · exact p.elim
/-- d.get(k, x) -/
theorem mets_get {x y z : PV} {v w u : V} {a : Addr} (R : HR K Z G ι h H) (rx : RV K G ι x v) (ry : RV K G ι y w) (rz : RV K G ι z u) (p : RP exc K (rV K) Z G ι H (getD x y z h) Q E) : ∃ a, v = .ref a ∧ ∃ o, DGet H a w o ∧ Q (o.getD u) H := by
  unfold getD at p
  split at p
  · rename_i kvs k e1 e2
    obtain ⟨a, qs, rfl, hd, rk⟩ := ditems_of R rx e1
    refine ⟨a, rfl, _, .inl ⟨qs, k, hd, keyV ry e2, rfl⟩, ?_⟩
    cases e3 : kget kvs k with
    | none =>
      rw [rk.none e3]
      rw [e3] at p
      exact RP.ok_here p R rz
    | some t =>
      obtain ⟨t', e4, rt⟩ := rk.at e3
      rw [e4]
      rw [e3] at p
      exact RP.ok_here p R rt
  · exact p.elim
/-- a changing dict, in the layer's heap -/
theorem ref_dic (R : HR K Z G ι h H) {n : Nat} {v : V} {ps : List (Key × PV)} (rx : RV K G ι (.ref n) v) (e : h[n]? = some (.dic ps)) : ∃ a qs, v = .ref a ∧ ι[n]? = some a ∧ H a = some (.dK qs) ∧ RK K G ι ps qs := by
  obtain ⟨a, rfl, hn⟩ := rx.ref_inv
  have ro := R.obj n a _ hn e
  generalize hH : H a = u at ro
  cases ro with
  | dic hk rs => exact ⟨a, _, rfl, hn, hH, rk_of hk rs⟩
theorem put_dic (R : HR K Z G ι h H) {n : Nat} {a : Addr} {ps : List (Key × PV)} {qs ws : List (Key × V)} (hn : ι[n]? = some a) (hH : H a = some (.dK ws)) (rk : RK K G ι ps qs) {Q : Hp → Prop} (p : ∀ G' ι' H', Nx K Z G ι H G' ι' (h.set n (.dic ps)) H' → Q H') : Q (upd H a (.dK qs)) :=
  p G ι _ ⟨Up.refl _, Pre.refl _, R.put hn (fun o w z => by rw [hH] at z; cases z) rk.toO, fun z hz => upd_ne fun e => (R.zz z hz).2.1 (e ▸ List.mem_of_getElem? hn)⟩
/-- d.pop(k, x) -/
theorem mets_popD {x y z : PV} {v w u : V} (R : HR K Z G ι h H) (rx : RV K G ι x v) (ry : RV K G ι y w) (rz : RV K G ι z u) (p : RP exc K (rV K) Z G ι H (popD x y z h) Q E) : ∃ a, v = .ref a ∧ ∃ kvs k, H a = some (.dK kvs) ∧ w = kV k ∧ (∀ v, valV kvs k = some v → Q v (upd H a (.dK (dropK kvs k)))) ∧ (valV kvs k = none → Q u H) := by
  unfold popD at p
  split at p
  · rename_i k e2
    split at p
    · rename_i kvs e
      obtain ⟨a, qs, rfl, hn, hH, rk⟩ := ref_dic R rx e
      refine ⟨a, rfl, qs, k, hH, keyV ry e2, fun t et => ?_, fun et => ?_⟩
      · cases e3 : kget kvs k with
        | none => rw [rk.none e3] at et; cases et
        | some t2 =>
          obtain ⟨t', e4, rt⟩ := rk.at e3
          rw [e4] at et
          have et' : t' = t := Option.some.inj et
          rw [← et']
          rw [e3] at p
          exact put_dic R hn hH (rk.drop k) (Q := fun H' => Q t' H') fun G' ι' H' n => p G' ι' H' _ n (rt.mono n.same n.pre)
      · cases e3 : kget kvs k with
        | none => rw [e3] at p; exact RP.ok_here p R rz
        | some t2 =>
          obtain ⟨t', e4, rt⟩ := rk.at e3
          rw [e4] at et; cases et
    · exact p.elim
  · exact p.elim
/-! ### what a method is asked of -/
theorem ok_lst (R : HR K Z G ι h H) {x : PV} {v : V} (rx : RV K G ι x v) (e : isLst h x = true) : tyV K.K "list" v H := by
  unfold isLst at e
  split at e
  · split at e
    · rename_i e2
      obtain ⟨a, vs, rfl, _, hH, _⟩ := ref_lst R rx e2
      exact Or.inl ⟨rfl, _, Or.inl (Or.inl hH)⟩
    · cases e
  · cases e
theorem ok_lsq (R : HR K Z G ι h H) {x : PV} {v : V} (rx : RV K G ι x v) (e : isLsq h x = true) : tyV K.K "list" v H := by
  unfold isLsq at e
  cases e1 : litems h x with
  | none => rw [e1] at e; cases e
  | some xs =>
    obtain ⟨a, vs, rfl, hd, _⟩ := litems_of R rx e1
    exact Or.inl ⟨rfl, _, Or.inl hd⟩
theorem ok_str {x : PV} {v : V} (rx : RV K G ι x v) (e : isStr x = true) : ∃ a, v = .str a := by
  unfold isStr at e
  split at e
  · exact ⟨_, rx.str_inv⟩
  · cases e
theorem ok_dic (R : HR K Z G ι h H) {x : PV} {v : V} (rx : RV K G ι x v) (e : isDic h x = true) : ∃ a, v = .ref a ∧ IsD H a := by
  unfold isDic at e
  cases e1 : ditems h x with
  | none => rw [e1] at e; cases e
  | some kvs =>
    obtain ⟨a, qs, rfl, hd, _⟩ := ditems_of R rx e1
    exact ⟨a, rfl, .inl ⟨qs, hd⟩⟩
end
end Mx

end

section
set_option Elab.async false
set_option linter.all false
set_option maxRecDepth 100000
set_option maxHeartbeats 4000000
/-! Each form of an expression: the layer's rule, at what the small language does. -/
namespace Mx
open PySem PySem.Spec PyProof.Rows L2

abbrev kx (X : Cx) : Wr := ⟨X.K, X.mg⟩
section
variable {X : Cx} {exc : List Str} {W : WX} {a b c : Expr} {ra rb rc : Env' → MH → Res PV} {pos : Pos}

theorem tOp_weak {r : R2} {f : PV → PV → MH → Res PV} {K : Wr} (k : OpS exc K f r) {σ : L2.St} {H : Hp} {Q : VK} (h : tE exc K W (fun ρ h => (ra ρ h).bind fun x h => (rb ρ h).bind fun y h => f x y h) σ H Q) :
    tOp r (tE exc K W ra) (tE exc K W rb) σ H Q := by
  obtain ⟨Z, G, ι, h, ρ, R, S, p⟩ := h
  refine ⟨Z, G, ι, h, ρ, R, S, p.bind fun x h1 G1 ι1 H1 vx n1 rx p1 => ?_⟩
  refine ⟨Z, G1, ι1, h1, ρ, n1.hr, S.mono n1.same n1.pre, p1.bind fun y h2 G2 ι2 H2 vy n2 ry p2 => ?_⟩
  exact k Z G2 ι2 h2 H2 x y vx vy Q _ n2.hr (rx.mono n2.same n2.pre) ry p2
theorem me_op {op : Operator} {r : R2} {f : PV → PV → MH → Res PV} (ho : OpR X (binaryOp op) r) (k : OpS exc (kx X) f r) (ha : PE X a (tE exc (kx X) W ra)) (hb : PE X b (tE exc (kx X) W rb)) :
    PE X (.BinOp a op b pos) (tE exc (kx X) W fun ρ h => (ra ρ h).bind fun x h => (rb ρ h).bind fun y h => f x y h) := (pe_op ho ha hb).weak fun _ _ _ q => tOp_weak k q
theorem me_bin {bo : Bo} {op : Operator} {r : Bool} (hm : boM bo op = true) (ha : PE X a (tE exc (kx X) W ra)) (hb : PE X b (tE exc (kx X) W rb)) :
    PE X (.BinOp a op b pos) (tE exc (kx X) W fun ρ h => (ra ρ h).bind fun x h => (rb ρ h).bind fun y h => binop bo r x y h) := by
  cases bo <;> cases op <;> first | cases hm | skip
  · exact me_op op_addAll (ops_add (K := kx X)) ha hb
  · exact me_op op_sub (ops_sub (K := kx X)) ha hb
  · exact me_op op_mulAll (ops_mul (K := kx X)) ha hb
  · exact me_op op_fdivF (ops_div (K := kx X)) ha hb
  · exact me_op op_modN (ops_mod (K := kx X)) ha hb
  · exact me_op op_pow (ops_pow (K := kx X)) ha hb
theorem ops_isB {K : Wr} : OpS exc K (cmpR .isB) rIsB := by
  intro Z G ι h H x y vx vy Q E R rx ry p
  replace p : RP exc K (rV K) Z G ι H (ofB (isBl x y) h) Q E := p
  unfold isBl at p
  split at p
  · rename_i a b
    rw [rx.bl_inv, ry.bl_inv]
    exact ⟨a, b, rfl, rfl, RP.ok_here p R (.bl _)⟩
  · exact p.elim
theorem ops_isntB {K : Wr} : OpS exc K (cmpR .isntB) rNotB := by
  intro Z G ι h H x y vx vy Q E R rx ry p
  replace p : RP exc K (rV K) Z G ι H (ofB ((isBl x y).map (!·)) h) Q E := p
  unfold isBl at p
  split at p
  · rename_i a b
    rw [rx.bl_inv, ry.bl_inv]
    exact ⟨a, b, rfl, rfl, RP.ok_here p R (.bl _)⟩
  · exact p.elim
/-- the rule for a comparison and what it gives -/
theorem cmp_rule {co : Co} {op : CmpOp} (hm : coM co op = true) (hu : X.A.units + 64 < cLine) : ∃ r, OpR X (compareOp op) r ∧ OpS exc (kx X) (cmpR co) r := by
  cases co <;> cases op <;> first | cases hm | skip
  · exact ⟨_, op_eqAll hu, ops_eq⟩
  · exact ⟨_, op_neAll hu, ops_ne⟩
  · exact ⟨_, op_ltAll, ops_lt⟩
  · exact ⟨_, op_leAll, ops_le⟩
  · exact ⟨_, op_gtAll, ops_gt⟩
  · exact ⟨_, op_geAll, ops_ge⟩
  · exact ⟨_, op_isN, ops_isN⟩
  · exact ⟨_, op_notN, ops_isntN⟩
  · exact ⟨_, op_isBl, ops_isB⟩
  · exact ⟨_, op_notBl, ops_isntB⟩
  · exact ⟨_, op_inAll hu, ops_in⟩
  · exact ⟨_, op_ninAll hu, ops_nin⟩
/-- no set display -/
def isSet : Expr → Bool
  | .Set _ _ _ => true
  | _ => false
theorem behind_of {b : Expr} {op : CmpOp} (h : isSet b = false) : behindInMarks op b = false := by
  cases b <;> first | rfl | cases h
theorem ofB_ok {o : Option Bool} {h : MH} {K : Wr} {Z : List Addr} {G : Hp} {ι : List Addr} {H : Hp} {Q : VK} {E : XK} (R : HR K Z G ι h H) (p : RP exc K (rV K) Z G ι H (ofB o h) Q E) : ∃ k, o = some k ∧ Q (.bl k) H := by
  cases o with
  | none => exact p.elim
  | some k => exact ⟨k, rfl, RP.ok_here p R (.bl k)⟩
theorem me_cmp {co : Co} {op : CmpOp} (hm : coM co op = true) (hu : X.A.units + 64 < cLine) (hs : isSet b = false) (ha : PE X a (tE exc (kx X) W ra)) (hb : PE X b (tE exc (kx X) W rb)) :
    PE X (.Compare a [op] [b] pos) (tE exc (kx X) W fun ρ h => (ra ρ h).bind fun x h => (rb ρ h).bind fun y h => ofB (cmpop co x y h) h) := by
  obtain ⟨r, ho, k⟩ := cmp_rule (X := X) (exc := exc) hm hu
  exact (pe_cmpR ho ha hb (behind_of hs)).weak fun _ _ _ q => tOp_weak (f := cmpR co) k q
/-- a run's truth -/
def truR (r : Env' → MH → Res PV) : Env' → MH → Res Bool := fun ρ h => (r ρ h).bind fun x h => match truthy h x with
  | some b => .ok b h
  | none => .stuck
theorem Res.assoc {α β γ : Type} (r : Res α) (f : α → MH → Res β) (g : β → MH → Res γ) : (r.bind f).bind g = r.bind fun a h => (f a h).bind g := by cases r <;> rfl
def ofO (o : Option Bool) (h : MH) : Res Bool := match o with
  | some b => .ok b h
  | none => .stuck
/-- a run that tells a bool -/
def blR (r : Res Bool) : Res PV := r.bind fun b h => .ok (.bl b) h
theorem ofB_eq (o : Option Bool) (h : MH) : ofB o h = blR (ofO o h) := by cases o <;> rfl
theorem blR_bind {α : Type} (r : Res α) (f : α → MH → Res Bool) : (r.bind fun a h => blR (f a h)) = blR (r.bind f) := (Res.assoc _ _ _).symm
theorem tru_blR (r : Res Bool) : ((blR r).bind fun x h => match truthy h x with
  | some b => .ok b h
  | none => .stuck) = r := by cases r <;> rfl
theorem blR_T {K : Wr} {Z : List Addr} {G : Hp} {ι : List Addr} {H : Hp} {r : Res Bool} {Q : Bool → Hp → Prop} {E : XK} (p : RP exc K (rId (α := Bool)) Z G ι H r Q E) : RP exc K (rV K) Z G ι H (blR r) (fun x H => ∃ k, x = .bl k ∧ Q k H) E := by
  cases r with
  | stuck => exact p
  | exn c v h => exact p
  | ok k h =>
    intro G' ι' H' b n r
    cases r
    exact ⟨k, rfl, p G' ι' H' k n rfl⟩
/-- the test of what tells a bool -/
theorem tT_bl {K : Wr} {r : Env' → MH → Res Bool} {σ : L2.St} {H : Hp} {Q : Bool → Hp → Prop} (q : tT exc K W (truR fun ρ h => blR (r ρ h)) σ H Q) : tE exc K W (fun ρ h => blR (r ρ h)) σ H (fun x H' => ∃ k, x = .bl k ∧ Q k H') := by
  obtain ⟨Z, G, ι, h, ρ, R, S, p⟩ := q
  refine ⟨Z, G, ι, h, ρ, R, S, blR_T ?_⟩
  unfold truR at p
  rw [tru_blR] at p
  exact p
theorem cmp_bl {co : Co} (ra rb : Env' → MH → Res PV) : (fun ρ h => (ra ρ h).bind fun x h => (rb ρ h).bind fun y h => ofB (cmpop co x y h) h) = fun ρ h => blR ((ra ρ h).bind fun x h => (rb ρ h).bind fun y h => ofO (cmpop co x y h) h) := by
  funext ρ h
  simp only [ofB_eq, blR_bind]
theorem mt_cmp {co : Co} {op : CmpOp} (hm : coM co op = true) (hu : X.A.units + 64 < cLine) (hs : isSet b = false) (ha : PE X a (tE exc (kx X) W ra)) (hb : PE X b (tE exc (kx X) W rb)) :
    PT X (.Compare a [op] [b] pos) (tT exc (kx X) W (truR fun ρ h => (ra ρ h).bind fun x h => (rb ρ h).bind fun y h => ofB (cmpop co x y h) h)) := by
  obtain ⟨r, ho, k⟩ := cmp_rule (X := X) (exc := exc) hm hu
  refine (pt_cmpR ho ha hb (behind_of hs)).weak fun σ H Q q => ?_
  show tOp r _ _ σ H (fun x H' => ∃ k, x = .bl k ∧ Q k H')
  refine tOp_weak (f := cmpR co) k ?_
  rw [cmp_bl] at q
  have := tT_bl q
  rw [← cmp_bl] at this
  exact this
theorem tChain_weak {r r' : R2} {co co' : Co} {K : Wr} (k : OpS exc K (cmpR co) r) (k' : OpS exc K (cmpR co') r') {σ : L2.St} {H : Hp} {Q : VK}
    (h : tE exc K W (fun ρ h => (ra ρ h).bind fun x h => (rb ρ h).bind fun y h => match cmpop co x y h with
      | some true => (rc ρ h).bind fun z h => ofB (cmpop co' y z h) h
      | some false => .ok (.bl false) h
      | none => .stuck) σ H Q) :
    tChain r r' (tE exc K W ra) (tE exc K W rb) (tE exc K W rc) σ H Q := by
  obtain ⟨Z, G, ι, h, ρ, R, S, p⟩ := h
  refine ⟨Z, G, ι, h, ρ, R, S, p.bind fun x h1 G1 ι1 H1 vx n1 rx p1 => ?_⟩
  refine ⟨Z, G1, ι1, h1, ρ, n1.hr, S.mono n1.same n1.pre, p1.bind fun y h2 G2 ι2 H2 vy n2 ry p2 => ?_⟩
  refine k Z G2 ι2 h2 H2 x y vx vy _ (fun _ _ _ => False) n2.hr (rx.mono n2.same n2.pre) ry ?_
  unfold cmpR
  cases e : cmpop co x y h2 with
  | none => rw [e] at p2; exact p2.elim
  | some t =>
    intro G3 ι3 H3 z n3 rz
    cases rz
    refine ⟨t, rfl, ?_⟩
    rw [e] at p2
    cases t with
    | false => exact p2 G3 ι3 H3 _ n3 (.bl _)
    | true =>
      rw [if_pos rfl]
      refine ⟨Z, G3, ι3, h2, ρ, n3.hr, S.mono (n1.same.trans (n2.same.trans n3.same)) (n1.pre.trans (n2.pre.trans n3.pre)), (RP.later p2 n3).bind fun z h4 G4 ι4 H4 vz n4 rz p4 => ?_⟩
      exact k' Z G4 ι4 h4 H4 y z vy vz Q _ n4.hr (ry.mono (n3.same.trans n4.same) (n3.pre.trans n4.pre)) rz p4
theorem me_chain {co co' : Co} {op op' : CmpOp} (hm : coM co op = true) (hm' : coM co' op' = true) (hu : X.A.units + 64 < cLine) (hs : isSet b = false) (hs' : isSet c = false) (ha : PE X a (tE exc (kx X) W ra)) (hb : PE X b (tE exc (kx X) W rb)) (hc : PE X c (tE exc (kx X) W rc)) :
    PE X (.Compare a [op, op'] [b, c] pos) (tE exc (kx X) W fun ρ h => (ra ρ h).bind fun x h => (rb ρ h).bind fun y h => match cmpop co x y h with
      | some true => (rc ρ h).bind fun z h => ofB (cmpop co' y z h) h
      | some false => .ok (.bl false) h
      | none => .stuck) := by
  obtain ⟨r, ho, k⟩ := cmp_rule (X := X) (exc := exc) hm hu
  obtain ⟨r', ho', k'⟩ := cmp_rule (X := X) (exc := exc) hm' hu
  exact (pe_chain ho ho' ha hb hc (by unfold lastMarks; exact behind_of hs')).weak fun _ _ _ q => tChain_weak k k' q
theorem chain_bl {co co' : Co} (ra rb rc : Env' → MH → Res PV) : (fun ρ h => (ra ρ h).bind fun x h => (rb ρ h).bind fun y h => match cmpop co x y h with
      | some true => (rc ρ h).bind fun z h => ofB (cmpop co' y z h) h
      | some false => .ok (.bl false) h
      | none => .stuck) = fun (ρ : Env') (h : MH) => blR ((ra ρ h).bind fun x h => (rb ρ h).bind fun y h => match cmpop co x y h with
      | some true => (rc ρ h).bind fun z h => ofO (cmpop co' y z h) h
      | some false => .ok false h
      | none => .stuck) := by
  funext ρ h
  rw [← blR_bind]
  congr 1
  funext x h
  rw [← blR_bind]
  congr 1
  funext y h
  cases cmpop co x y h with
  | none => rfl
  | some t => cases t with
    | false => rfl
    | true => simp only [ofB_eq, blR_bind]
theorem mt_chain {co co' : Co} {op op' : CmpOp} (hm : coM co op = true) (hm' : coM co' op' = true) (hu : X.A.units + 64 < cLine) (hs : isSet b = false) (hs' : isSet c = false) (ha : PE X a (tE exc (kx X) W ra)) (hb : PE X b (tE exc (kx X) W rb)) (hc : PE X c (tE exc (kx X) W rc)) :
    PT X (.Compare a [op, op'] [b, c] pos) (tT exc (kx X) W (truR fun ρ h => (ra ρ h).bind fun x h => (rb ρ h).bind fun y h => match cmpop co x y h with
      | some true => (rc ρ h).bind fun z h => ofB (cmpop co' y z h) h
      | some false => .ok (.bl false) h
      | none => .stuck)) := by
  obtain ⟨r, ho, k⟩ := cmp_rule (X := X) (exc := exc) hm hu
  obtain ⟨r', ho', k'⟩ := cmp_rule (X := X) (exc := exc) hm' hu
  refine (pt_chain ho ho' ha hb hc (by unfold lastMarks; exact behind_of hs')).weak fun σ H Q q => ?_
  show tChain r r' _ _ _ σ H (fun x H' => ∃ k, x = .bl k ∧ Q k H')
  refine tChain_weak (co := co) (co' := co') k k' ?_
  rw [chain_bl] at q
  have := tT_bl q
  rw [← chain_bl] at this
  exact this

/-! ### names, constants, displays -/
theorem me_var {i : Nat} {x : Str} (hN : X.N[i]? = some x) (hv : Vis X.env.scope x) (hd : (x == ("__debug__" : Str)) = false) (hcd : (x == ("__classdict__" : Str)) = false) :
    PE X (.Name x pos) (tE exc (kx X) W fun ρ h => match ρ[i]? with
      | some (some x) => .ok x h
      | _ => .stuck) := by
  refine (pe_var hN hv hd hcd).weak fun σ H Q q => ?_
  obtain ⟨Z, G, ι, h, ρ, R, S, p⟩ := q
  dsimp only at p
  split at p
  · rename_i x e
    obtain ⟨v, e2, rv⟩ := S.2 i x e
    exact ⟨v, e2, RP.ok_here p R rv⟩
  · exact p.elim
theorem tC_weak {K : Wr} {x : PV} {v : V} (r : ∀ G ι, RV K G ι x v) {σ : L2.St} {H : Hp} {Q : VK} (q : tE exc K W (fun _ h => .ok x h) σ H Q) : tC v σ H Q := by
  obtain ⟨Z, G, ι, h, ρ, R, S, p⟩ := q
  exact RP.ok_here p R (r G ι)
theorem me_non {j pos} : PE X (.Constant .none j pos) (tE exc (kx X) W fun _ h => .ok .non h) := pe_non.weak fun _ _ _ q => tC_weak (fun _ _ => .non) q
theorem me_bl {b j pos} : PE X (.Constant (.bool b) j pos) (tE exc (kx X) W fun _ h => .ok (.bl b) h) := pe_bl.weak fun _ _ _ q => tC_weak (fun _ _ => .bl b) q
theorem me_int {i j pos} : PE X (.Constant (.int i) j pos) (tE exc (kx X) W fun _ h => .ok (.int i) h) := pe_int.weak fun _ _ _ q => tC_weak (fun _ _ => .int i) q
theorem me_str {x j pos} : PE X (.Constant (.str x) j pos) (tE exc (kx X) W fun _ h => .ok (.str x) h) := pe_str.weak fun _ _ _ q => tC_weak (fun _ _ => .str x) q
theorem me_con {x : Str} {v : PV} {u : Value} {y : V} (hg : Gl X x) (hm : X.mg x = some u) (r : RelV y u) (hr : ∀ G ι, RV (kx X) G ι v y) (hd : (x == ("__debug__" : Str)) = false) : PE X (.Name x pos) (tE exc (kx X) W fun _ h => .ok v h) :=
  (pe_glob hg hm r hd).weak fun _ _ _ q => tC_weak hr q
theorem me_nil : PA X [] (tA exc (kx X) W fun _ h => .ok [] h) := pa_nil.weak fun σ H Q q => by
  obtain ⟨Z, G, ι, h, ρ, R, S, p⟩ := q
  exact RP.ok_here p R .nil
theorem me_cons {e : Expr} {es : List Expr} {r : Env' → MH → Res PV} {rs : Env' → MH → Res (List PV)} (ha : PE X e (tE exc (kx X) W r)) (hr : PA X es (tA exc (kx X) W rs)) (hs : starEach (e :: es) X.env = (false, eval e X.env) :: starEach es X.env) :
    PA X (e :: es) (tA exc (kx X) W fun ρ h => (r ρ h).bind fun x h => (rs ρ h).bind fun xs h => .ok (x :: xs) h) := by
  refine (pa_cons ha hr hs).weak fun σ H Q q => ?_
  obtain ⟨Z, G, ι, h, ρ, R, S, p⟩ := q
  refine ⟨Z, G, ι, h, ρ, R, S, p.bind fun x h1 G1 ι1 H1 vx n1 rx p1 => ?_⟩
  refine ⟨Z, G1, ι1, h1, ρ, n1.hr, S.mono n1.same n1.pre, p1.bind fun y h2 G2 ι2 H2 vy n2 ry p2 => ?_⟩
  exact RP.ok_here p2 n2.hr (.cons (rx.mono n2.same n2.pre) ry)
theorem me_tup {es : List Expr} {k} {rs : Env' → MH → Res (List PV)} (ha : PA X es (tA exc (kx X) W rs)) (hl : ∀ ρ h xs h', rs ρ h = .ok xs h' → xs.length ≤ 1000) : PE X (.Tuple es k pos) (tE exc (kx X) W fun ρ h => (rs ρ h).bind fun xs h => .ok (.tup xs) h) := by
  refine (pe_tupN ha).weak fun σ H Q q => ?_
  obtain ⟨Z, G, ι, h, ρ, R, S, p⟩ := q
  refine ⟨Z, G, ι, h, ρ, R, S, ?_⟩
  have len := hl ρ h
  dsimp only at p
  generalize rs ρ h = r at p len
  cases r with
  | stuck => exact p
  | exn c v h => exact p
  | ok xs h1 =>
    intro G1 ι1 H1 vs n1 rv
    have z := len xs h1 rfl
    exact ⟨by rw [← rv.length, sizeLine_eq]; omega, mk_tup n1.hr rv (RP.later p n1)⟩
theorem me_lst {es : List Expr} {rs : Env' → MH → Res (List PV)} {b : Bool} (ha : PA X es (tA exc (kx X) W rs)) (hl : ∀ ρ h xs h', rs ρ h = .ok xs h' → xs.length ≤ 1000) : PE X (.List es pos) (tE exc (kx X) W fun ρ h => (rs ρ h).bind fun xs h => mkLst b xs h) := by
  refine (pe_lst ha).weak fun σ H Q q => ?_
  obtain ⟨Z, G, ι, h, ρ, R, S, p⟩ := q
  refine ⟨Z, G, ι, h, ρ, R, S, ?_⟩
  have len := hl ρ h
  dsimp only at p
  generalize rs ρ h = r at p len
  cases r with
  | stuck => exact p
  | exn c v h => exact p
  | ok xs h1 =>
    intro G1 ι1 H1 vs n1 rv
    have z := len xs h1 rfl
    exact ⟨by rw [← rv.length, sizeLine_eq]; omega, mk_lst n1.hr rv (RP.later p n1)⟩
theorem me_neg (ha : PE X a (tE exc (kx X) W ra)) : PE X (.UnaryOp .USub a pos) (tE exc (kx X) W fun ρ h => (ra ρ h).bind fun x h => match x with
    | .int i => .ok (.int (-i)) h
    | _ => .stuck) := by
  refine (pe_un un_neg ha).weak fun σ H Q q => ?_
  obtain ⟨Z, G, ι, h, ρ, R, S, p⟩ := q
  refine ⟨Z, G, ι, h, ρ, R, S, p.bind fun x h1 G1 ι1 H1 vx n1 rx p1 => ?_⟩
  split at p1
  · rename_i i
    exact ⟨i, rx.int_inv, RP.ok_here p1 n1.hr (.int _)⟩
  · exact p1.elim
theorem me_not (ha : PE X a (tE exc (kx X) W ra)) : PE X (.UnaryOp .Not a pos) (tE exc (kx X) W fun ρ h => (ra ρ h).bind fun x h => ofB ((truthy h x).map (!·)) h) := by
  refine (pe_notT ha).weak fun σ H Q q => ?_
  obtain ⟨Z, G, ι, h, ρ, R, S, p⟩ := q
  refine ⟨Z, G, ι, h, ρ, R, S, p.bind fun x h1 G1 ι1 H1 vx n1 rx p1 => ?_⟩
  cases e : truthy h1 x with
  | none => rw [e] at p1; exact p1.elim
  | some k =>
    rw [e] at p1
    exact ⟨k, tru_of n1.hr rx e, RP.ok_here p1 n1.hr (.bl _)⟩
theorem me_one {op} {r : Env' → MH → Res PV} (ha : PE X a (tE exc (kx X) W r)) : PE X (.BoolOp op [a] pos) (tE exc (kx X) W r) := pe_one ha
theorem me_and {e : Expr} {rest : List Expr} {r rr : Env' → MH → Res PV} (ha : PE X a (tE exc (kx X) W r)) (hb : PE X (.BoolOp .And (e :: rest) pos) (tE exc (kx X) W rr)) :
    PE X (.BoolOp .And (a :: e :: rest) pos) (tE exc (kx X) W fun ρ h => (r ρ h).bind fun x h => match truthy h x with
      | some true => rr ρ h
      | some false => .ok x h
      | none => .stuck) := by
  refine (pe_andT ha hb).weak fun σ H Q q => ?_
  obtain ⟨Z, G, ι, h, ρ, R, S, p⟩ := q
  refine ⟨Z, G, ι, h, ρ, R, S, p.bind fun x h1 G1 ι1 H1 vx n1 rx p1 => ?_⟩
  cases e : truthy h1 x with
  | none => rw [e] at p1; exact p1.elim
  | some k =>
    rw [e] at p1
    refine ⟨k, tru_of n1.hr rx e, ?_⟩
    cases k with
    | true => exact ⟨Z, G1, ι1, h1, ρ, n1.hr, S.mono n1.same n1.pre, p1⟩
    | false => exact RP.ok_here p1 n1.hr rx
theorem me_or {e : Expr} {rest : List Expr} {r rr : Env' → MH → Res PV} (ha : PE X a (tE exc (kx X) W r)) (hb : PE X (.BoolOp .Or (e :: rest) pos) (tE exc (kx X) W rr)) :
    PE X (.BoolOp .Or (a :: e :: rest) pos) (tE exc (kx X) W fun ρ h => (r ρ h).bind fun x h => match truthy h x with
      | some true => .ok x h
      | some false => rr ρ h
      | none => .stuck) := by
  refine (pe_orT ha hb).weak fun σ H Q q => ?_
  obtain ⟨Z, G, ι, h, ρ, R, S, p⟩ := q
  refine ⟨Z, G, ι, h, ρ, R, S, p.bind fun x h1 G1 ι1 H1 vx n1 rx p1 => ?_⟩
  cases e : truthy h1 x with
  | none => rw [e] at p1; exact p1.elim
  | some k =>
    rw [e] at p1
    refine ⟨k, tru_of n1.hr rx e, ?_⟩
    cases k with
    | false => exact ⟨Z, G1, ι1, h1, ρ, n1.hr, S.mono n1.same n1.pre, p1⟩
    | true => exact RP.ok_here p1 n1.hr rx
theorem me_ifx {r : Env' → MH → Res PV} (hc : PT X c (tT exc (kx X) W (truR r))) (ha : PE X a (tE exc (kx X) W ra)) (hb : PE X b (tE exc (kx X) W rb)) :
    PE X (.IfExp c a b pos) (tE exc (kx X) W fun ρ h => (r ρ h).bind fun x h => match truthy h x with
      | some true => ra ρ h
      | some false => rb ρ h
      | none => .stuck) := by
  refine (pe_ifExp hc ha hb).weak fun σ H Q q => ?_
  obtain ⟨Z, G, ι, h, ρ, R, S, p⟩ := q
  refine ⟨Z, G, ι, h, ρ, R, S, ?_⟩
  have e : ((r ρ h).bind fun x h => match truthy h x with
      | some true => ra ρ h
      | some false => rb ρ h
      | none => .stuck) = (truR r ρ h).bind fun t h => if t = true then ra ρ h else rb ρ h := by
    unfold truR
    rw [Res.assoc]
    congr 1
    funext x h
    cases truthy h x with
    | none => rfl
    | some t => cases t <;> rfl
  dsimp only at p
  rw [e] at p
  refine p.bind fun t h1 G1 ι1 H1 t' n1 et p1 => ?_
  cases et
  cases t with
  | true => exact ⟨Z, G1, ι1, h1, ρ, n1.hr, S.mono n1.same n1.pre, p1⟩
  | false => exact ⟨Z, G1, ι1, h1, ρ, n1.hr, S.mono n1.same n1.pre, p1⟩
theorem plainIx_of {b : Expr} (h : isSlice b = false) : PlainIx b := by
  intro o i
  cases b <;> first | rfl | cases h
theorem me_ix (hu : X.A.units + 64 < cLine) (hs : isSlice b = false) (ha : PE X a (tE exc (kx X) W ra)) (hb : PE X b (tE exc (kx X) W rb)) :
    PE X (.Subscript a b pos) (tE exc (kx X) W fun ρ h => (ra ρ h).bind fun x h => (rb ρ h).bind fun y h => ixop x y h) :=
  (pe_ix (ix_all hu) ha hb (plainIx_of hs)).weak fun _ _ _ q => tOp_weak (K := kx X) ops_ix q
theorem mo_none : PO X none (tOi exc (kx X) W fun _ h => .ok none h) := po_none.weak fun σ H Q q => by
  obtain ⟨Z, G, ι, h, ρ, R, S, p⟩ := q
  exact RP.ok_here p R rfl
theorem mo_some {e : Expr} {r : Env' → MH → Res PV} (he : PE X e (tE exc (kx X) W r)) : PO X (some e) (tOi exc (kx X) W fun ρ h => (r ρ h).bind fun x h => match x with
    | .int i => .ok (some i) h
    | _ => .stuck) := by
  refine (po_some he).weak fun σ H Q q => ?_
  obtain ⟨Z, G, ι, h, ρ, R, S, p⟩ := q
  refine ⟨Z, G, ι, h, ρ, R, S, p.bind fun x h1 G1 ι1 H1 vx n1 rx p1 => ?_⟩
  split at p1
  · rename_i i
    exact ⟨i, rx.int_inv, RP.ok_here p1 n1.hr rfl⟩
  · exact p1.elim
theorem me_sl {lo hi : Option Expr} {p2 : Pos} {r : Bool} {rl rh : Env' → MH → Res (Option Int)} (ha : PE X a (tE exc (kx X) W ra)) (hl : PO X lo (tOi exc (kx X) W rl)) (hh : PO X hi (tOi exc (kx X) W rh)) :
    PE X (.Subscript a (.Slice lo hi none p2) pos) (tE exc (kx X) W fun ρ h => (ra ρ h).bind fun x h => (rl ρ h).bind fun l h => (rh ρ h).bind fun u h => slop r x l u h) := by
  refine (pe_slice sl_all ha hl hh).weak fun σ H Q q => ?_
  obtain ⟨Z, G, ι, h, ρ, R, S, p⟩ := q
  refine ⟨Z, G, ι, h, ρ, R, S, p.bind fun x h1 G1 ι1 H1 vx n1 rx p1 => ?_⟩
  refine ⟨Z, G1, ι1, h1, ρ, n1.hr, S.mono n1.same n1.pre, p1.bind fun l h2 G2 ι2 H2 l' n2 el p2 => ?_⟩
  refine ⟨Z, G2, ι2, h2, ρ, n2.hr, S.mono (n1.same.trans n2.same) (n1.pre.trans n2.pre), p2.bind fun u h3 G3 ι3 H3 u' n3 eu p3 => ?_⟩
  cases el
  cases eu
  exact ops_sl n3.hr (rx.mono (n2.same.trans n3.same) (n2.pre.trans n3.pre)) p3
/-! ### built-ins -/
theorem tCB_weak {r : List V → Hp → VK → Prop} {K : Wr} {f : List PV → MH → Res PV} {rs : Env' → MH → Res (List PV)} (k : CallS exc K f r) {σ : L2.St} {H : Hp} {Q : VK} (h : tE exc K W (fun ρ h => (rs ρ h).bind fun xs h => f xs h) σ H Q) : tCB r (tA exc K W rs) σ H Q := by
  obtain ⟨Z, G, ι, h, ρ, R, S, p⟩ := h
  exact ⟨Z, G, ι, h, ρ, R, S, p.bind fun x h1 G1 ι1 H1 vx n1 rx p1 => k Z G1 ι1 h1 H1 x vx Q _ n1.hr rx p1⟩
theorem me_blt {f : Bi} {r : Bool} {x : Str} {p : Pos} {e : Expr} {es : List Expr} {rs : Env' → MH → Res (List PV)} (hx : biN f = x) (hg : Gl X x) (hc : biC f = false → X.calm = true) (hm : if f = .gcd then X.mg "gcd" = some (.builtin "math.gcd") else X.mg x = none)
    (ha : PA X (e :: es) (tA exc (kx X) W rs)) (hdb : (x == ("__debug__" : Str)) = false) (he : starEach (e :: es) X.env = (false, eval e X.env) :: starEach es X.env) (hpl : (backTo pos (starEach es X.env)).any (·.1) = false) :
    PE X (.Call (.Name x p) (e :: es) [] pos) (tE exc (kx X) W fun ρ h => (rs ρ h).bind fun xs h => bltop f r xs h) := by
  subst hx
  cases f with
  | len => exact (pe_callB call_lenAll hg hm (by decide +kernel) ha (by decide) hdb he hpl).weak fun _ _ _ q => tCB_weak (K := kx X) calls_len q
  | abs => exact (pe_callB call_abs hg hm (by decide +kernel) ha (by decide) hdb he hpl).weak fun _ _ _ q => tCB_weak (K := kx X) calls_abs q
  | min => exact (pe_callB (call_min2 (hc rfl)) hg hm (by decide +kernel) ha (by decide) hdb he hpl).weak fun _ _ _ q => tCB_weak (K := kx X) calls_min q
  | max => exact (pe_callB (call_max2 (hc rfl)) hg hm (by decide +kernel) ha (by decide) hdb he hpl).weak fun _ _ _ q => tCB_weak (K := kx X) calls_max q
  | int => exact (pe_callTy call_int1 hg hm (by decide +kernel) ha (by decide) hdb he hpl).weak fun _ _ _ q => tCB_weak (K := kx X) calls_int q
  | tuple => exact (pe_callTy call_tupN hg hm (by decide +kernel) ha (by decide) hdb he hpl).weak fun _ _ _ q => tCB_weak (K := kx X) calls_tuple q
  | list => exact (pe_callTy call_list_of hg hm (by decide +kernel) ha (by decide) hdb he hpl).weak fun _ _ _ q => tCB_weak (K := kx X) calls_list q
  | any => exact (pe_callB (cr_any (hc rfl)) hg hm (by decide +kernel) ha (by decide) hdb he hpl).weak fun _ _ _ q => tCB_weak (K := kx X) calls_any q
  | all => exact (pe_callB (cr_all (hc rfl)) hg hm (by decide +kernel) ha (by decide) hdb he hpl).weak fun _ _ _ q => tCB_weak (K := kx X) calls_all q
  | gcd => exact (pe_callBfun cr_gcd hg hm ha hdb he hpl).weak fun _ _ _ q => tCB_weak (K := kx X) calls_gcd q
  | sorted => exact (pe_callB (cr_sortAll (hc rfl)) hg hm (by decide +kernel) ha (by decide) hdb he hpl).weak fun _ _ _ q => tCB_weak (K := kx X) calls_sorted q
  | dict => exact (pe_callTy (call_dictAll (hc rfl)) hg hm (by decide +kernel) ha (by decide) hdb he hpl).weak fun _ _ _ q => tCB_weak (K := kx X) calls_dict q
  | sum => exact (pe_callB (cr_sum (hc rfl)) hg hm (by decide +kernel) ha (by decide) hdb he hpl).weak fun _ _ _ q => tCB_weak (K := kx X) calls_sum q
  | min1 => exact (pe_callB (cr_min (hc rfl)) hg hm (by decide +kernel) ha (by decide) hdb he hpl).weak fun _ _ _ q => tCB_weak (K := kx X) calls_min1 q
  | max1 => exact (pe_callB (cr_max (hc rfl)) hg hm (by decide +kernel) ha (by decide) hdb he hpl).weak fun _ _ _ q => tCB_weak (K := kx X) calls_max1 q

/-! ### isinstance -/
theorem boot_ty : ∀ t ∈ askT, bootBuiltins (Str.ofString t) = some (.type t) := by
  intro t ht
  simp only [askT, List.mem_cons, List.not_mem_nil, or_false] at ht
  rcases ht with rfl | rfl | rfl | rfl | rfl | rfl <;> decide +kernel
theorem name_ty : ∀ t ∈ askT, (Str.ofString t : Str) ≠ "__name__" ∧ ((Str.ofString t : Str) == ("__debug__" : Str)) = false := by
  intro t ht
  simp only [askT, List.mem_cons, List.not_mem_nil, or_false] at ht
  rcases ht with rfl | rfl | rfl | rfl | rfl | rfl <;> exact ⟨by decide, by decide⟩
def dataT : List String := ["NoneType", "bool", "int", "str", "tuple", "list", "dict"]
theorem kit_all : ∀ t ∈ dataT, ∀ u ∈ askT, kitB t u = some (subB t u) := by
  intro t ht u hu
  simp only [dataT, askT, List.mem_cons, List.not_mem_nil, or_false] at ht hu
  rcases ht with rfl | rfl | rfl | rfl | rfl | rfl | rfl <;> rcases hu with rfl | rfl | rfl | rfl | rfl | rfl <;> decide +kernel
theorem ty_of {K : Wr} {Z : List Addr} {G : Hp} {ι : List Addr} {h : MH} {H : Hp} (R : HR K Z G ι h H) {x : PV} {v : V} {t : String} (r : RV K G ι x v) (e : tyOf h x = some t) : TyX K.K H v (.type t) ∧ t ∈ dataT := by
  cases r with
  | non => cases e; exact ⟨.base .non, by decide⟩
  | bl b => cases e; exact ⟨.base (.bl b), by decide⟩
  | int i => cases e; exact ⟨.base (.int i), by decide⟩
  | str z => cases e; exact ⟨.base (.str z), by decide⟩
  | @tup a xs vs hs rs =>
    cases e
    refine ⟨?_, by decide⟩
    rcases Same.seqT R.sub hs.sqT with (q | ⟨o, q⟩) | ⟨o, its, n, hk, hc, _⟩
    · exact .base (.tup q)
    · exact .fTuple q
    · exact .kTuple hk hc
  | lst hs rs =>
    cases e
    refine ⟨?_, by decide⟩
    rcases rd_same R.sub hs with q | ⟨o, q⟩
    · exact .base (.lst q)
    · exact .base (.frz q)
  | dic hs _ rs =>
    cases e
    refine ⟨?_, by decide⟩
    rcases rd_same R.sub hs with q | ⟨o, q⟩
    · exact .base (.dK q)
    · exact .fDict q
  | fn _ => cases e
  | @ref n a hn =>
    obtain ⟨o, ho, ro⟩ := R.at hn
    unfold tyOf at e
    simp only [ho] at e
    generalize hH : H a = u at ro
    cases ro with
    | lst rs => cases e; exact ⟨.base (.lst hH), by decide⟩
    | dic _ rs => cases e; exact ⟨.base (.dK hH), by decide⟩
    | fdic _ rs => cases e; exact ⟨.fDict hH, by decide⟩
    | ins _ _ _ => cases e
  | exn _ _ _ _ => cases e
theorem me_type {x : Str} {t : String} {p : Pos} (hx : x = (t : Str)) (ht : t ∈ askT) (hg : Gl X x) (hm : X.mg x = none) : PE X (.Name x p) (tC (.ty t)) := by
  subst hx
  exact pe_bltn hg hm (boot_ty t ht) rfl (name_ty t ht).1 (name_ty t ht).2
theorem kits_any {K : PySem.W.Frag} {t : String} (ht : t ∈ dataT) : ∀ {ts : List String}, (∀ u ∈ ts, u ∈ askT) → PySem.W.kitAny K (.type t) (ts.map Value.type) = some (ts.any (subB t))
  | [], _ => kitAny_nil
  | u :: ts, h => by
    refine kitAny_cons (b := subB t u) (kit_ty (kit_all t ht u (h u List.mem_cons_self))) (fun e => ?_) (fun e => ?_)
    · rw [List.any_cons, e, Bool.false_or]
      exact kits_any ht fun v hv => h v (List.mem_cons_of_mem _ hv)
    · rw [List.any_cons, e, Bool.true_or]
theorem clsvs : ∀ ts : List String, Paired ClsV (ts.map V.ty) (ts.map Value.type)
  | [] => .nil
  | t :: ts => .cons (.ty t) (clsvs ts)
theorem me_isi1 {t : Expr} {p : Pos} {u : String} {g : Str} (hgn : g = ("isinstance" : Str)) (hg : Gl X g) (hm : X.mg g = none) (hu : u ∈ askT) (ha : PE X a (tE exc (kx X) W ra)) (ht : PE X t (tC (.ty u))) (hs : starEach [a, t] X.env = [(false, eval a X.env), (false, eval t X.env)]) (hs2 : starEach [t] X.env = [(false, eval t X.env)]) :
    PE X (.Call (.Name g p) [a, t] [] pos) (tE exc (kx X) W fun ρ h => (ra ρ h).bind fun x h => ofB (isiop x [u] h) h) := by
  subst hgn
  refine (pe_callB call_isi hg hm (by decide +kernel) (pa_cons ha (pa_cons ht pa_nil hs2) (by rw [hs, hs2])) (by decide) (by decide) (by rw [hs, hs2]) (by rw [hs2]; rfl)).weak fun σ H Q q => ?_
  obtain ⟨Z, G, ι, h, ρ, R, S, p⟩ := q
  refine ⟨Z, G, ι, h, ρ, R, S, p.bind fun x h1 G1 ι1 H1 vx n1 rx p1 => ?_⟩
  unfold isiop at p1
  cases e : tyOf h1 x with
  | none => rw [e] at p1; exact p1.elim
  | some ty =>
    rw [e] at p1
    obtain ⟨q1, q2⟩ := ty_of n1.hr rx e
    refine ⟨vx, .ty u, _, _, subB ty u, rfl, .ty u, q1, kit_ty (kit_all ty q2 u hu), ?_⟩
    have := RP.ok_here (b := V.bl _) p1 n1.hr (.bl _)
    simpa using this
theorem tys_run : ∀ {ts : List String} {es : List Expr}, (∀ u ∈ ts, u ∈ askT) → Paired (fun t e => PE X e (tC (.ty t)) ∧ ∀ es', starEach (e :: es') X.env = (false, eval e X.env) :: starEach es' X.env) ts es → PA X es (fun _ H Q => Q (ts.map V.ty) H)
  | _, _, _, .nil => pa_nil
  | _, _, h, .cons r t => by
    exact (pa_cons r.1 (tys_run (fun u hu => h u (List.mem_cons_of_mem _ hu)) t) (r.2 _)).weak fun σ H Q q => q
theorem me_isiT {ts : List String} {us : List Expr} {k : Nat} {tp : Pos} {p : Pos} {g : Str} (hgn : g = ("isinstance" : Str)) (hg : Gl X g) (hm : X.mg g = none) (hu : ∀ u ∈ ts, u ∈ askT) (hl : ts.length ≤ 1000) (ha : PE X a (tE exc (kx X) W ra)) (hp : Paired (fun t e => PE X e (tC (.ty t)) ∧ ∀ es', starEach (e :: es') X.env = (false, eval e X.env) :: starEach es' X.env) ts us)
    (hs : starEach [a, .Tuple us k tp] X.env = [(false, eval a X.env), (false, eval (.Tuple us k tp) X.env)]) :
    PE X (.Call (.Name g p) [a, .Tuple us k tp] [] pos) (tE exc (kx X) W fun ρ h => (ra ρ h).bind fun x h => ofB (isiop x ts h) h) := by
  subst hgn
  refine (pe_callB call_isiT hg hm (by decide +kernel) (pa_cons ha (pa_cons (pe_tup (tys_run hu hp)) pa_nil rfl) (by rw [hs]; rfl)) (by decide) (by decide) (by rw [hs]; rfl) rfl).weak fun σ H Q q => ?_
  obtain ⟨Z, G, ι, h, ρ, R, S, p⟩ := q
  refine ⟨Z, G, ι, h, ρ, R, S, p.bind fun x h1 G1 ι1 H1 vx n1 rx p1 => ?_⟩
  unfold isiop at p1
  refine ⟨by rw [List.length_map, sizeLine_eq]; omega, fun l hl => ?_⟩
  have n2 : Nx (kx X) Z G1 ι1 H1 (upd G1 l (.tup (ts.map V.ty))) ι1 h1 (upd H1 l (.tup (ts.map V.ty))) := ⟨same_upd (n1.hr.gnone hl), Pre.refl _, n1.hr.laid hl, fun z hz => upd_ne fun e => n1.hr.freshZ hl (e ▸ hz)⟩
  cases e : tyOf h1 x with
  | none => rw [e] at p1; exact p1.elim
  | some ty =>
    rw [e] at p1
    obtain ⟨q1, q2⟩ := ty_of n2.hr (rx.mono n2.same n2.pre) e
    exact ⟨vx, l, _, _, _, _, rfl, upd_same, clsvs ts, q1, kits_any q2 hu, RP.ok_here (b := V.bl _) (p1.later n2) n2.hr (.bl _)⟩
/-! ### methods -/
theorem attrBase_of {o : Expr} {f : Str} {env : Env} {w' : Sem Value} (h : plainO o = true) : attributeBase o f env w' = w' := by
  cases o with
  | Call fn as ks ps =>
    cases fn with
    | Name id q =>
      cases as with
      | nil => cases ks with
        | nil => cases h
        | cons _ _ => rfl
      | cons _ _ => rfl
    | _ => rfl
  | _ => rfl
/-- either of two readings -/
theorem pe_or {e : Expr} {t t' : TE} (h : PE X e t) (h' : PE X e t') : PE X e (fun σ H Q => t σ H Q ∨ t' σ H Q) := ⟨fun pins s σ H Q I q => q.elim (h.run pins s σ H Q I) (h'.run pins s σ H Q I)⟩
section
variable {o y y2 : Expr} {name : Str} {apos cpos : Pos} {rs : Env' → MH → Res (List PV)} {m : Mt} {K : Wr}
/-- a method call's run -/
noncomputable def metR (m : Mt) (n : Nat) (ra : Env' → MH → Res PV) (rs : Env' → MH → Res (List PV)) : Env' → MH → Res PV := fun ρ h => (ra ρ h).bind fun x h => if metok m n x h = true then (rs ρ h).bind fun xs h => metop m true x xs h else .stuck
theorem metop_r {m : Mt} {r r' : Bool} {x : PV} {xs : List PV} {h : MH} : metop m r x xs h = metop m r' x xs h := rfl
theorem go_bm {T : String} {n : Nat} {r : V → List V → Hp → VK → Prop} (hl : ∀ ρ h xs h', rs ρ h = .ok xs h' → xs.length = n)
    (ok : ∀ {Z : List Addr} {G : Hp} {ι : List Addr} {h : MH} {H : Hp} {x : PV} {v : V}, HR K Z G ι h H → RV K G ι x v → metok m n x h = true → tyV K.K T v H)
    (k : ∀ {Z : List Addr} {G : Hp} {ι : List Addr} {h : MH} {H : Hp} {Q : VK} {E : XK} {x : PV} {v : V} {xs : List PV} {vs : List V}, HR K Z G ι h H → RV K G ι x v → RVs K G ι xs vs → xs.length = n → RP exc K (rV K) Z G ι H (metop m true x xs h) Q E → r v vs H Q) {σ : L2.St} {H : Hp} {Q : VK}
    (q : tE exc K W (metR m n ra rs) σ H Q) : tBM K.K T r (tE exc K W ra) (tA exc K W rs) σ H Q := by
  obtain ⟨Z, G, ι, h, ρ, R, S, p⟩ := q
  refine ⟨Z, G, ι, h, ρ, R, S, p.bind fun x h1 G1 ι1 H1 vx n1 rx p1 => ?_⟩
  split at p1
  · rename_i hk
    refine ⟨ok n1.hr rx hk, Z, G1, ι1, h1, ρ, n1.hr, S.mono n1.same n1.pre, ?_⟩
    have len := hl ρ h1
    generalize rs ρ h1 = rr at p1 len
    cases rr with
    | stuck => exact p1
    | exn c v h => exact p1
    | ok xs h2 =>
      intro G2 ι2 H2 vs n2 rv
      exact k n2.hr (rx.mono n2.same n2.pre) rv (len xs h2 rfl) (RP.later p1 n2)
  · exact p1.elim
theorem go_bm0 {T : String} {r : V → List V → Hp → VK → Prop}
    (ok : ∀ {Z : List Addr} {G : Hp} {ι : List Addr} {h : MH} {H : Hp} {x : PV} {v : V}, HR K Z G ι h H → RV K G ι x v → metok m 0 x h = true → tyV K.K T v H)
    (k : ∀ {Z : List Addr} {G : Hp} {ι : List Addr} {h : MH} {H : Hp} {Q : VK} {E : XK} {x : PV} {v : V}, HR K Z G ι h H → RV K G ι x v → RP exc K (rV K) Z G ι H (metop m true x [] h) Q E → r v [] H Q) {σ : L2.St} {H : Hp} {Q : VK}
    (q : tE exc K W (metR m 0 ra fun _ h => .ok [] h) σ H Q) : tBM0 K.K T r (tE exc K W ra) σ H Q := by
  obtain ⟨Z, G, ι, h, ρ, R, S, p⟩ := q
  refine ⟨Z, G, ι, h, ρ, R, S, p.bind fun x h1 G1 ι1 H1 vx n1 rx p1 => ?_⟩
  split at p1
  · rename_i hk
    exact ⟨ok n1.hr rx hk, k n1.hr rx p1⟩
  · exact p1.elim
theorem len1 {xs : List PV} {vs : List V} {G : Hp} {ι : List Addr} (r : RVs K G ι xs vs) (h : xs.length = 1) : ∃ x v, xs = [x] ∧ vs = [v] ∧ RV K G ι x v := by
  obtain ⟨x, rfl⟩ := List.length_eq_one_iff.mp h
  obtain ⟨v, ws, rfl, r1, r2⟩ := r.cons_inv
  rw [r2.nil_inv]
  exact ⟨x, v, rfl, rfl, r1⟩
theorem len2 {xs : List PV} {vs : List V} {G : Hp} {ι : List Addr} (r : RVs K G ι xs vs) (h : xs.length = 2) : ∃ x y v w, xs = [x, y] ∧ vs = [v, w] ∧ RV K G ι x v ∧ RV K G ι y w := by
  rcases xs with _ | ⟨x, _ | ⟨y, _ | _⟩⟩ <;> first | cases h | skip
  obtain ⟨v, ws, rfl, r1, r2⟩ := r.cons_inv
  obtain ⟨w, us, rfl, r3, r4⟩ := r2.cons_inv
  rw [r4.nil_inv]
  exact ⟨x, y, v, w, rfl, rfl, r1, r3⟩
theorem me_met0 (hn : mtN m = name) (hA : mtA m 0 = true) (hpo : plainO o = true) (hline : apos.endLine = cpos.line) (ho : PE X o (tE exc (kx X) W ra)) :
    PE X (.Call (.Attribute o name apos) [] [] cpos) (tE exc (kx X) W (metR m 0 ra fun _ h => .ok [] h)) := by
  subst hn
  have hb : attributeBase o (mtN m) X.env (eval o X.env) = eval o X.env := attrBase_of hpo
  have hli : (apos.endLine == cpos.line) = true := by rw [hline]; exact beq_self_eq_true _
  cases m <;> first | cases hA | skip
  · exact (pe_bm0 PySem.F.plainAttrs_list PySem.F.slot_list_pop PySem.F.type_list_pop mt_pop ho hb hli).weak fun σ H Q q => go_bm0 (K := kx X) (m := .pop) (fun R r e => ok_lst R r e) (fun R r p => mets_pop R r p) q
  · exact (pe_bm0 PySem.F.plainAttrs_list PySem.F.slot_list_reverse PySem.F.type_list_reverse mt_reverse ho hb hli).weak fun σ H Q q => go_bm0 (K := kx X) (m := .reverse) (fun R r e => ok_lst R r e) (fun R r p => mets_reverse R r p) q
  · exact (pe_bm0 PySem.F.plainAttrs_list PySem.F.slot_list_clear PySem.F.type_list_clear mt_clear ho hb hli).weak fun σ H Q q => go_bm0 (K := kx X) (m := .clear) (fun R r e => ok_lst R r e) (fun R r p => mets_clear R r p) q
  · exact (pe_bm0 PySem.F.plainAttrs_str PySem.F.slot_str_upper PySem.F.type_str_upper mt_upper ho hb hli).weak fun σ H Q q => go_bm0 (K := kx X) (m := .upper) (fun R r e => by obtain ⟨a, rfl⟩ := ok_str r e; rfl) (fun R r p => mets_upper R r p) q
theorem me_met1 (hu : X.A.units + 65 < cLine) (hn : mtN m = name) (hA : mtA m 1 = true) (hpo : plainO o = true) (hline : apos.endLine = cpos.line) (ho : PE X o (tE exc (kx X) W ra)) (ha : PA X [y] (tA exc (kx X) W rs)) (hs : starEach [y] X.env = [(false, eval y X.env)]) (hl : ∀ ρ h xs h', rs ρ h = .ok xs h' → xs.length = 1) :
    PE X (.Call (.Attribute o name apos) [y] [] cpos) (tE exc (kx X) W (metR m 1 ra rs)) := by
  subst hn
  have hb : attributeBase o (mtN m) X.env (eval o X.env) = eval o X.env := attrBase_of hpo
  have hfew : ((backTo cpos (starEach [y] X.env)).all (fun x => !x.1) && (backToKw cpos (keywordEach [] X.env)).all (fun x => x.1.isSome)
      && decide (([y] : List Expr).length + ([] : List Keyword).length + (if ([] : List Keyword).isEmpty then 0 else 1) < 30)) = true := by rw [hs]; rfl
  have hli : (apos.endLine == cpos.line) = true := by rw [hline]; exact beq_self_eq_true _
  have one : ∀ {r : V → List V → Hp → VK → Prop} {f : PV → PV → MH → Res PV}, (∀ {Z : List Addr} {G : Hp} {ι : List Addr} {h : MH} {H : Hp} {Q : VK} {E : XK} {x z : PV} {v w : V}, HR (kx X) Z G ι h H → RV (kx X) G ι x v → RV (kx X) G ι z w → RP exc (kx X) (rV (kx X)) Z G ι H (f x z h) Q E → r v [w] H Q) →
      (∀ x z h, metop m true x [z] h = f x z h) → ∀ {Z : List Addr} {G : Hp} {ι : List Addr} {h : MH} {H : Hp} {Q : VK} {E : XK} {x : PV} {v : V} {xs : List PV} {vs : List V}, HR (kx X) Z G ι h H → RV (kx X) G ι x v → RVs (kx X) G ι xs vs → xs.length = 1 → RP exc (kx X) (rV (kx X)) Z G ι H (metop m true x xs h) Q E → r v vs H Q := by
    intro r f k e Z G ι h H Q E x v xs vs R rx rv z p
    obtain ⟨x1, w1, rfl, rfl, r1⟩ := len1 rv z
    rw [e] at p
    exact k R rx r1 p
  cases m <;> first | cases hA | skip
  · exact (pe_bm PySem.F.plainAttrs_list PySem.F.slot_list_append PySem.F.type_list_append mt_append ho ha hb hfew hli hs rfl).weak fun σ H Q q => go_bm (K := kx X) (m := .append) hl (fun R r e => ok_lst R r e) (one (fun R rx ry p => mets_append R rx ry p) fun _ _ _ => rfl) q
  · exact (pe_bm PySem.F.plainAttrs_list PySem.F.slot_list_extend PySem.F.type_list_extend mt_extR ho ha hb hfew hli hs rfl).weak fun σ H Q q => go_bm (K := kx X) (m := .extend) hl (fun R r e => ok_lst R r e) (one (fun R rx ry p => mets_extend R rx ry p) fun _ _ _ => rfl) q
  · exact (pe_bm PySem.F.plainAttrs_list PySem.F.slot_list_pop PySem.F.type_list_pop mt_popAt ho ha hb hfew hli hs rfl).weak fun σ H Q q => go_bm (K := kx X) (m := .pop) hl (fun R r e => ok_lst R r e) (one (fun R rx ry p => mets_popI R rx ry p) fun _ _ _ => rfl) q
  · exact (pe_bm PySem.F.plainAttrs_list PySem.F.slot_list_index PySem.F.type_list_index (mt_indexD hu) ho ha hb hfew hli hs rfl).weak fun σ H Q q => go_bm (K := kx X) (m := .index) hl (fun R r e => ok_lsq R r e) (one (fun R rx ry p => mets_index R rx ry p) fun _ _ _ => rfl) q
  · exact (pe_bm PySem.F.plainAttrs_str PySem.F.slot_str_join PySem.F.type_str_join mt_join ho ha hb hfew hli hs rfl).weak fun σ H Q q => go_bm (K := kx X) (m := .join) hl (fun R r e => by obtain ⟨a, rfl⟩ := ok_str r e; rfl) (one (fun R rx ry p => mets_join R rx ry p) fun _ _ _ => rfl) q
theorem me_met2 {ry ry2 : Env' → MH → Res PV} (hu : X.A.units + 64 < cLine) (hn : mtN m = name) (hA : mtA m 2 = true) (hpo : plainO o = true) (hline : apos.endLine = cpos.line) (ho : PE X o (tE exc (kx X) W ra)) (hy : PE X y (tE exc (kx X) W ry)) (hy2 : PE X y2 (tE exc (kx X) W ry2)) (hs : starEach [y, y2] X.env = [(false, eval y X.env), (false, eval y2 X.env)]) (hs2 : starEach [y2] X.env = [(false, eval y2 X.env)]) :
    PE X (.Call (.Attribute o name apos) [y, y2] [] cpos) (tE exc (kx X) W (metR m 2 ra fun ρ h => (ry ρ h).bind fun x h => (ry2 ρ h).bind fun z h => .ok [x, z] h)) := by
  subst hn
  have hb : attributeBase o (mtN m) X.env (eval o X.env) = eval o X.env := attrBase_of hpo
  have hfew : ((backTo cpos (starEach [y, y2] X.env)).all (fun x => !x.1) && (backToKw cpos (keywordEach [] X.env)).all (fun x => x.1.isSome)
      && decide (([y, y2] : List Expr).length + ([] : List Keyword).length + (if ([] : List Keyword).isEmpty then 0 else 1) < 30)) = true := by rw [hs]; rfl
  have hli : (apos.endLine == cpos.line) = true := by rw [hline]; exact beq_self_eq_true _
  have m2 : M2 X o (mtN m) apos y y2 cpos := ⟨hb, hfew, hli, by rw [hs]; rfl⟩
  have du : X.A.units + 1 < cLine := Nat.lt_of_le_of_lt (by omega) hu
  have go : ∀ {T : Hp → Addr → V → V → VK → Prop} {f : PV → PV → PV → MH → Res PV}, (∀ x z u h, metop m true x [z, u] h = f x z u h) → (∀ x h, metok m 2 x h = isDic h x) →
      (∀ {Z : List Addr} {G : Hp} {ι : List Addr} {h : MH} {H : Hp} {Q : VK} {E : XK} {x z u : PV} {v w t : V}, HR (kx X) Z G ι h H → RV (kx X) G ι x v → RV (kx X) G ι z w → RV (kx X) G ι u t → RP exc (kx X) (rV (kx X)) Z G ι H (f x z u h) Q E → ∃ a, v = .ref a ∧ T H a w t Q) →
      ∀ {σ : L2.St} {H : Hp} {Q : VK}, tE exc (kx X) W (metR m 2 ra fun ρ h => (ry ρ h).bind fun x h => (ry2 ρ h).bind fun z h => .ok [x, z] h) σ H Q →
      tE exc (kx X) W ra σ H fun x H1 => ∃ a, x = .ref a ∧ IsD H1 a ∧ tE exc (kx X) W ry σ H1 fun z H2 => tE exc (kx X) W ry2 σ H2 fun u H3 => T H3 a z u Q := by
    intro T f e1 e2 k σ H Q q
    obtain ⟨Z, G, ι, h, ρ, R, S, p⟩ := q
    refine ⟨Z, G, ι, h, ρ, R, S, p.bind fun x h1 G1 ι1 H1 vx n1 rx p1 => ?_⟩
    split at p1
    · rename_i hk
      rw [e2] at hk
      obtain ⟨a, rfl, hd⟩ := ok_dic n1.hr rx hk
      have S1 := S.mono n1.same n1.pre
      refine ⟨a, rfl, hd, Z, G1, ι1, h1, ρ, n1.hr, S1, ?_⟩
      rw [Res.assoc] at p1
      refine p1.bind fun z h2 G2 ι2 H2 vz n2 rz p2 => ?_
      refine ⟨Z, G2, ι2, h2, ρ, n2.hr, S1.mono n2.same n2.pre, ?_⟩
      rw [Res.assoc] at p2
      refine p2.bind fun u h3 G3 ι3 H3 vu n3 ru p3 => ?_
      have p4 : RP exc (kx X) (rV (kx X)) Z G3 ι3 H3 (metop m true x [z, u] h3) Q _ := p3
      rw [e1] at p4
      obtain ⟨a', ea, t⟩ := k n3.hr (rx.mono (n2.same.trans n3.same) (n2.pre.trans n3.pre)) (rz.mono n3.same n3.pre) ru p4
      cases ea
      exact t
    · exact p1.elim
  cases m <;> first | cases hA | skip
  · refine (pe_dpop2 ho hy hy2 m2).weak fun σ H Q q => ?_
    exact go (T := fun H3 a z u Q => ∃ kvs k, H3 a = some (.dK kvs) ∧ z = kV k ∧ (∀ v, valV kvs k = some v → Q v (upd H3 a (.dK (dropK kvs k)))) ∧ (valV kvs k = none → Q u H3)) (fun _ _ _ _ => rfl) (fun _ _ => rfl) (fun R rx ry rz p => mets_popD R rx ry rz p) q
  · have ha : PA X [y, y2] (tA exc (kx X) W fun ρ h => (ry ρ h).bind fun x h => (ry2 ρ h).bind fun z h => .ok [x, z] h) := by
      have := me_cons (exc := exc) hy (me_cons (exc := exc) hy2 me_nil (by rw [hs2]; rfl)) (by rw [hs, hs2])
      refine this.weak fun σ H Q q => ?_
      have e : (fun (ρ : Env') (h : MH) => (ry ρ h).bind fun x h => ((ry2 ρ h).bind fun x h => Res.bind (.ok [] h) fun xs h => .ok (x :: xs) h).bind fun xs h => .ok (x :: xs) h) = fun ρ h => (ry ρ h).bind fun x h => (ry2 ρ h).bind fun z h => .ok [x, z] h := by
        funext ρ h
        congr 1
        funext x h
        rw [Res.assoc]
        rfl
      rw [e]; exact q
    have hl : ∀ ρ h xs h', ((ry ρ h).bind fun x h => (ry2 ρ h).bind fun z h => Res.ok [x, z] h) = .ok xs h' → xs.length = 2 := by
      intro ρ h xs h' e
      cases e1 : ry ρ h with
      | stuck => rw [e1] at e; cases e
      | exn _ _ _ => rw [e1] at e; cases e
      | ok x h1 =>
        rw [e1] at e
        have e : ((ry2 ρ h1).bind fun z h => Res.ok [x, z] h) = .ok xs h' := e
        cases e2 : ry2 ρ h1 with
        | stuck => rw [e2] at e; cases e
        | exn _ _ _ => rw [e2] at e; cases e
        | ok z h2 =>
          rw [e2] at e
          have e : Res.ok [x, z] h2 = .ok xs h' := e
          cases e; rfl
    refine (pe_bm PySem.F.plainAttrs_list PySem.F.slot_list_insert PySem.F.type_list_insert mt_insert ho ha hb hfew hli (by rw [hs, hs2]) (by rw [hs2]; rfl)).weak fun σ H Q q => go_bm (K := kx X) (m := .insert) hl (fun R r e => ok_lst R r e) (fun R rx rv z p => ?_) q
    obtain ⟨x1, x2, w1, w2, rfl, rfl, r1, r2⟩ := len2 rv z
    exact mets_insert R rx r1 r2 p
  · refine (pe_dget2 du ho hy hy2 m2).weak fun σ H Q q => ?_
    exact go (T := fun H3 a z u Q => ∃ o, DGet H3 a z o ∧ Q (o.getD u) H3) (fun _ _ _ _ => rfl) (fun _ _ => rfl) (fun R rx ry rz p => mets_get (a := 0) R rx ry rz p) q
end
/-! ### tests -/
theorem mt_not {r : Env' → MH → Res PV} (ha : PT X a (tT exc (kx X) W (truR r))) : PT X (.UnaryOp .Not a pos) (tT exc (kx X) W (truR fun ρ h => (r ρ h).bind fun x h => ofB ((truthy h x).map (!·)) h)) := by
  refine (pt_not ha).weak fun σ H Q q => ?_
  obtain ⟨Z, G, ι, h, ρ, R, S, p⟩ := q
  refine ⟨Z, G, ι, h, ρ, R, S, ?_⟩
  unfold truR at p
  unfold truR
  rw [Res.assoc] at p
  have e : ((r ρ h).bind fun x h => (ofB ((truthy h x).map (!·)) h).bind fun x h => match truthy h x with
      | some b => .ok b h
      | none => .stuck) = ((r ρ h).bind fun x h => match truthy h x with
      | some b => .ok b h
      | none => .stuck).bind fun b h => .ok (!b) h := by
    rw [Res.assoc]
    congr 1
    funext x h
    cases truthy h x <;> rfl
  rw [e] at p
  refine p.bind fun t h1 G1 ι1 H1 t' n1 et p1 => ?_
  cases et
  exact RP.ok_here p1 n1.hr rfl
theorem mt_plain {r : Env' → MH → Res PV} (ha : PE X a (tE exc (kx X) W r)) (he : ∀ whole, isTrue a X.env whole = (do let v ← whole; standAt a.pos; holding [v] (PySem.truthy v))) : PT X a (tT exc (kx X) W (truR r)) := by
  refine (pt_truth ha he).weak fun σ H Q q => ?_
  obtain ⟨Z, G, ι, h, ρ, R, S, p⟩ := q
  refine ⟨Z, G, ι, h, ρ, R, S, p.bind fun x h1 G1 ι1 H1 vx n1 rx p1 => ?_⟩
  cases e : truthy h1 x with
  | none => rw [e] at p1; exact p1.elim
  | some k =>
    rw [e] at p1
    exact ⟨k, tru_of n1.hr rx e, RP.ok_here p1 n1.hr rfl⟩
theorem mw_and1 {r : Env' → MH → Res PV} (ha : PT X a (tT exc (kx X) W (truR r))) : PW X (.BoolOp .And [a] pos) (tT exc (kx X) W (truR r)) := pw_and1 ha
theorem mw_or1 {r : Env' → MH → Res PV} (ha : PT X a (tT exc (kx X) W (truR r))) : PW X (.BoolOp .Or [a] pos) (tT exc (kx X) W (truR r)) := pw_or1 ha
theorem mw_and {e : Expr} {rest : List Expr} {r rr : Env' → MH → Res PV} (ha : PT X a (tT exc (kx X) W (truR r))) (hb : PW X (.BoolOp .And (e :: rest) pos) (tT exc (kx X) W (truR rr))) :
    PW X (.BoolOp .And (a :: e :: rest) pos) (tT exc (kx X) W (truR fun ρ h => (r ρ h).bind fun x h => match truthy h x with
      | some true => rr ρ h
      | some false => .ok x h
      | none => .stuck)) := by
  refine (pw_and ha hb).weak fun σ H Q q => ?_
  obtain ⟨Z, G, ι, h, ρ, R, S, p⟩ := q
  refine ⟨Z, G, ι, h, ρ, R, S, ?_⟩
  unfold truR at p
  unfold truR
  rw [Res.assoc] at p
  have e : ((r ρ h).bind fun x h => (match truthy h x with
      | some true => rr ρ h
      | some false => .ok x h
      | none => .stuck : Res PV).bind fun x h => match truthy h x with
      | some b => .ok b h
      | none => .stuck) = ((r ρ h).bind fun x h => match truthy h x with
      | some b => .ok b h
      | none => .stuck).bind fun b h => if b = true then truR rr ρ h else .ok false h := by
    rw [Res.assoc]
    congr 1
    funext x h
    cases e : truthy h x with
    | none => rfl
    | some t => cases t with
      | true => rfl
      | false =>
        show (match truthy h x with
          | some b => Res.ok b h
          | none => .stuck) = Res.ok false h
        rw [e]
  rw [e] at p
  refine p.bind fun t h1 G1 ι1 H1 t' n1 et p1 => ?_
  cases et
  cases t with
  | true => exact ⟨Z, G1, ι1, h1, ρ, n1.hr, S.mono n1.same n1.pre, p1⟩
  | false => exact RP.ok_here p1 n1.hr rfl
theorem mw_or {e : Expr} {rest : List Expr} {r rr : Env' → MH → Res PV} (ha : PT X a (tT exc (kx X) W (truR r))) (hb : PW X (.BoolOp .Or (e :: rest) pos) (tT exc (kx X) W (truR rr))) :
    PW X (.BoolOp .Or (a :: e :: rest) pos) (tT exc (kx X) W (truR fun ρ h => (r ρ h).bind fun x h => match truthy h x with
      | some true => .ok x h
      | some false => rr ρ h
      | none => .stuck)) := by
  refine (pw_or ha hb).weak fun σ H Q q => ?_
  obtain ⟨Z, G, ι, h, ρ, R, S, p⟩ := q
  refine ⟨Z, G, ι, h, ρ, R, S, ?_⟩
  unfold truR at p
  unfold truR
  rw [Res.assoc] at p
  have e : ((r ρ h).bind fun x h => (match truthy h x with
      | some true => .ok x h
      | some false => rr ρ h
      | none => .stuck : Res PV).bind fun x h => match truthy h x with
      | some b => .ok b h
      | none => .stuck) = ((r ρ h).bind fun x h => match truthy h x with
      | some b => .ok b h
      | none => .stuck).bind fun b h => if b = true then .ok true h else truR rr ρ h := by
    rw [Res.assoc]
    congr 1
    funext x h
    cases e : truthy h x with
    | none => rfl
    | some t => cases t with
      | false => rfl
      | true =>
        show (match truthy h x with
          | some b => Res.ok b h
          | none => .stuck) = Res.ok true h
        rw [e]
  rw [e] at p
  refine p.bind fun t h1 G1 ι1 H1 t' n1 et p1 => ?_
  cases et
  cases t with
  | true => exact RP.ok_here p1 n1.hr rfl
  | false => exact ⟨Z, G1, ι1, h1, ρ, n1.hr, S.mono n1.same n1.pre, p1⟩
/-- a conditional expression as a test -/
theorem pt_ifExp {tc ta tb : TT} (hc : PT X c tc) (ha : PT X a ta) (hb : PT X b tb) : PT X (.IfExp c a b pos) (fun σ H Q => tc σ H fun k H1 => if k = true then ta σ H1 Q else tb σ H1 Q) := by
  refine ⟨fun pins s σ H Q I h => ?_⟩
  show wpAny _ _ (PySem.isTrue (.IfExp c a b pos) X.env _) _ _ _
  unfold PySem.isTrue
  refine wpAny_bind (thn (hc.run pins s σ H _ I h) fun d s1 ⟨H1, I1, q1⟩ => ?_)
  cases d with
  | true => exact ha.run pins s1 σ H1 Q I1 q1
  | false => exact hb.run pins s1 σ H1 Q I1 q1
theorem mt_ifx {r ra' rb' : Env' → MH → Res PV} (hc : PT X c (tT exc (kx X) W (truR r))) (ha : PT X a (tT exc (kx X) W (truR ra'))) (hb : PT X b (tT exc (kx X) W (truR rb'))) :
    PT X (.IfExp c a b pos) (tT exc (kx X) W (truR fun ρ h => (r ρ h).bind fun x h => match truthy h x with
      | some true => ra' ρ h
      | some false => rb' ρ h
      | none => .stuck)) := by
  refine (pt_ifExp hc ha hb).weak fun σ H Q q => ?_
  obtain ⟨Z, G, ι, h, ρ, R, S, p⟩ := q
  refine ⟨Z, G, ι, h, ρ, R, S, ?_⟩
  unfold truR at p
  unfold truR
  rw [Res.assoc] at p
  have e : ((r ρ h).bind fun x h => (match truthy h x with
      | some true => ra' ρ h
      | some false => rb' ρ h
      | none => .stuck : Res PV).bind fun x h => match truthy h x with
      | some b => .ok b h
      | none => .stuck) = ((r ρ h).bind fun x h => match truthy h x with
      | some b => .ok b h
      | none => .stuck).bind fun b h => if b = true then truR ra' ρ h else truR rb' ρ h := by
    rw [Res.assoc]
    congr 1
    funext x h
    cases truthy h x with
    | none => rfl
    | some t => cases t <;> rfl
  rw [e] at p
  refine p.bind fun t h1 G1 ι1 H1 t' n1 et p1 => ?_
  cases et
  cases t with
  | true => exact ⟨Z, G1, ι1, h1, ρ, n1.hr, S.mono n1.same n1.pre, p1⟩
  | false => exact ⟨Z, G1, ι1, h1, ρ, n1.hr, S.mono n1.same n1.pre, p1⟩
end
end Mx

end

section
set_option Elab.async false
set_option linter.all false
set_option maxRecDepth 100000
set_option maxHeartbeats 4000000
/-! Targets, what loops go through, comprehensions. -/
namespace Mx
open PySem PySem.Spec PyProof.Rows L2

/-! ### targets -/
section
variable (K : Wr)
def tG (g : Ag) : TG := fun v σ H Q => ∃ Z G ι h ρ x ρ', HR K Z G ι h H ∧ SR K G ι ρ σ ∧ RV K G ι x v ∧ bindG g x ρ h = some ρ' ∧ ∀ σ', SR K G ι ρ' σ' → σ'.length = σ.length → (∀ i, i ∉ g.slots → σ'[i]? = σ[i]?) → Q σ' H
def tGs (gs : Ags) : TGs := fun vs σ H Q => ∃ Z G ι h ρ xs ρ', HR K Z G ι h H ∧ SR K G ι ρ σ ∧ RVs K G ι xs vs ∧ bindGs gs xs ρ h = some ρ' ∧ ∀ σ', SR K G ι ρ' σ' → σ'.length = σ.length → (∀ i, i ∉ Ag.slots.gsl gs → σ'[i]? = σ[i]?) → Q σ' H
end
theorem SR.set {K : Wr} {G : Hp} {ι : List Addr} {ρ : Env'} {σ : L2.St} {i : Nat} {x : PV} {v : V} (S : SR K G ι ρ σ) (r : RV K G ι x v) : SR K G ι (ρ.set i (some x)) (σ.set i (some v)) := by
  refine ⟨by rw [List.length_set, List.length_set]; exact S.1, fun j y e => ?_⟩
  by_cases hj : i = j
  · subst hj
    have hl : i < ρ.length := by
      have := (List.getElem?_eq_some_iff.mp e).1
      rwa [List.length_set] at this
    rw [List.getElem?_set_self hl] at e
    cases e
    exact ⟨v, List.getElem?_set_self (by rw [← S.1]; exact hl), r⟩
  · rw [List.getElem?_set_ne hj] at e
    rw [List.getElem?_set_ne hj]
    exact S.2 j y e
theorem SR.clear {K : Wr} {G : Hp} {ι : List Addr} {ρ : Env'} {σ : L2.St} (i : Nat) (S : SR K G ι ρ σ) : SR K G ι (ρ.set i none) (σ.set i none) := by
  refine ⟨by rw [List.length_set, List.length_set]; exact S.1, fun j y e => ?_⟩
  by_cases hj : i = j
  · subst hj
    by_cases hl : i < ρ.length
    · rw [List.getElem?_set_self hl] at e; cases e
    · rw [List.getElem?_eq_none (by rw [List.length_set]; omega)] at e; cases e
  · rw [List.getElem?_set_ne hj] at e
    rw [List.getElem?_set_ne hj]
    exact S.2 j y e
theorem SR.wipe {K : Wr} {G : Hp} {ι : List Addr} {ρ : Env'} {σ : L2.St} (S : SR K G ι ρ σ) : ∀ vs : List Nat, SR K G ι (wipeP ρ vs) (L2.wipe σ vs)
  | [] => S
  | v :: vs => by
    unfold wipeP L2.wipe
    exact (SR.wipe S vs).clear v
theorem wipe_at {σ : L2.St} {i : Nat} : ∀ {vs : List Nat}, i ∈ vs → (L2.wipe σ vs)[i]? = if i < σ.length then some none else none
  | v :: vs, h => by
    unfold L2.wipe
    by_cases e : v = i
    · subst e
      rw [List.getElem?_set, if_pos rfl, wipe_length]
    · rw [List.getElem?_set_ne e]
      rcases List.mem_cons.mp h with rfl | h
      · exact absurd rfl e
      · exact wipe_at h
theorem wipe_same {σ τ : L2.St} {vs : List Nat} (hl : τ.length = σ.length) (h : ∀ i, i ∉ vs → τ[i]? = σ[i]?) : L2.wipe τ vs = L2.wipe σ vs := by
  apply List.ext_getElem?
  intro i
  by_cases hi : i ∈ vs
  · rw [wipe_at hi, wipe_at hi, hl]
  · rw [wipe_out hi, wipe_out hi]; exact h i hi
theorem wipe_wipe {σ : L2.St} {vs : List Nat} : L2.wipe (L2.wipe σ vs) vs = L2.wipe σ vs := wipe_same (wipe_length _ _) fun i hi => wipe_out hi

section
variable {X : Cx} {L : Lk}
theorem star_of {N : List Str} {fn : Str → Bool} {sc : Scope} {g : Ag} {e : Expr} (hm : mG L N fn sc g e = true) (es : List Expr) : assignEach (e :: es) X.env = (false, assign e X.env) :: assignEach es X.env := by
  cases g with
  | nm i => cases e <;> first | rfl | cases hm
  | tp gs => cases e <;> first | rfl | cases hm
theorem loc_of {sc : Scope} {x : Str} (h : locB sc x = true) : Loc sc x := by
  unfold locB at h
  split at h
  · exact .inl (by assumption)
  · exact .inr (by assumption)
  · cases h
theorem onlyLoc_of {sc : Scope} {x : Str} (h : onlyLocB sc x = true) : sc.names.lookup x = some .local := by
  unfold onlyLocB at h
  split at h
  · assumption
  · cases h
theorem vis_of {sc : Scope} {x : Str} (h : visB sc x = true) : Vis sc x := by
  unfold visB at h
  split at h
  · exact .inl (by assumption)
  · exact .inr (.inl (by assumption))
  · exact .inr (.inr (by assumption))
  · cases h
theorem gl_of {X : Cx} {x : Str} (h : gloB X.env.scope x = true) : Gl X x ∧ (x == ("__debug__" : Str)) = false := by
  unfold gloB at h
  split at h
  · refine ⟨by assumption, ?_⟩
    simpa using h
  · cases h
theorem bindGs_len {N : List Str} {fn : Str → Bool} {sc : Scope} {h : MH} : ∀ {gs : Ags} {xs : List Expr} {ys : List PV} {ρ ρ' : Env'}, mGs L N fn sc gs xs = true → bindGs gs ys ρ h = some ρ' → ys.length = xs.length
  | .nil, [], [], _, _, _, _ => rfl
  | .nil, _ :: _, _, _, _, h1, _ => by cases h1
  | .nil, [], _ :: _, _, _, _, h2 => by simp [bindGs] at h2
  | .cons g gs, [], _, _, _, h1, _ => by cases h1
  | .cons g gs, _ :: _, [], _, _, _, h2 => by simp [bindGs] at h2
  | .cons g gs, x :: xs, y :: ys, ρ, ρ', h1, h2 => by
    unfold mGs at h1
    rw [Bool.and_eq_true] at h1
    unfold bindGs at h2
    split at h2
    · simp only [List.length_cons]; rw [bindGs_len h1.2 h2]
    · cases h2
mutual
theorem sG (hc : X.calm = true) (hN : X.N.Nodup) {fn : Str → Bool} (hf : ∀ x, fn x = true → X.fn x = true) : ∀ {g : Ag} {e : Expr}, mG L X.N fn X.env.scope g e = true → PG X e (tG (kx X) g)
  | .nm i, e, hm => by
    cases e <;> try (cases hm; done)
    rename_i x pos
    simp only [mG, Bool.and_eq_true, Bool.or_eq_true, decide_eq_true_eq] at hm
    obtain ⟨⟨h1, h2⟩, h3⟩ := hm
    have hf' : X.fn x = true ∨ X.env.scope.names.lookup x = some .local := h3.imp (hf x) onlyLoc_of
    refine ⟨fun pins s σ H v u Q I r q => (pg_name hN h1 (loc_of h2) hf').run pins s σ H v u Q I r ?_⟩
    obtain ⟨Z, G, ι, h, ρ, x, ρ', R, S, rx, hb, k⟩ := q
    unfold bindG at hb
    split at hb
    · cases hb
      refine k _ (S.set rx) (List.length_set ..) fun j hj => ?_
      have : i ≠ j := fun e => hj (by subst e; exact List.mem_singleton.mpr rfl)
      exact List.getElem?_set_ne this
    · cases hb
  | .tp gs, e, hm => by
    cases e <;> try (cases hm; done)
    rename_i xs kk pos
    have hm' : mGs L X.N fn X.env.scope gs xs = true := hm
    obtain ⟨h1, h2, h3⟩ := sGs hc hN hf hm'
    refine ⟨fun pins s σ H v u Q I r q => (pg_tup (n := xs.length) hc h1 h2 h3).run pins s σ H v u Q I r ?_⟩
    obtain ⟨Z, G, ι, h, ρ, x, ρ', R, S, rx, hb, k⟩ := q
    unfold bindG at hb
    split at hb
    · rename_i ys
      obtain ⟨a, vs, rfl, hs, rvs⟩ := rx.tup_inv
      refine ⟨a, vs, rfl, Same.seqT R.sub hs.sqT, ?_, Z, G, ι, h, ρ, ys, ρ', R, S, rvs, hb, k⟩
      rw [← rvs.length]
      exact bindGs_len hm' hb
    · cases hb
theorem sGs (hc : X.calm = true) (hN : X.N.Nodup) {fn : Str → Bool} (hf : ∀ x, fn x = true → X.fn x = true) : ∀ {gs : Ags} {es : List Expr}, mGs L X.N fn X.env.scope gs es = true → PGs X es (tGs (kx X) gs) ∧ (assignEach es X.env).length = es.length ∧ (assignEach es X.env).findIdx? (·.1) = none
  | .nil, es, hm => by
    cases es with
    | cons _ _ => cases hm
    | nil =>
      refine ⟨⟨fun pins s σ H vs us Q I r q => pgs_nil.run pins s σ H vs us Q I r ?_⟩, rfl, rfl⟩
      obtain ⟨Z, G, ι, h, ρ, xs, ρ', R, S, rx, hb, k⟩ := q
      cases xs with
      | cons _ _ => simp [bindGs] at hb
      | nil =>
        simp only [bindGs, Option.some.injEq] at hb
        subst hb
        exact ⟨rx.nil_inv, k σ S rfl fun _ _ => rfl⟩
  | .cons g gs, es, hm => by
    cases es with
    | nil => cases hm
    | cons e es =>
      unfold mGs at hm
      rw [Bool.and_eq_true] at hm
      have h1 := sG hc hN hf hm.1
      obtain ⟨h2, h3, h4⟩ := sGs hc hN hf hm.2
      have hst := star_of (X := X) hm.1 es
      refine ⟨⟨fun pins s σ H vs us Q I r q => (pgs_cons h1 h2 (by rw [hst]; rfl)).run pins s σ H vs us Q I r ?_⟩, by rw [hst, List.length_cons, List.length_cons, h3], by rw [hst, List.findIdx?_cons, if_neg (by simp), h4]; rfl⟩
      obtain ⟨Z, G, ι, h, ρ, xs, ρ', R, S, rx, hb, k⟩ := q
      cases xs with
      | nil => simp [bindGs] at hb
      | cons x xs =>
        obtain ⟨v, ws, rfl, r1, r2⟩ := rx.cons_inv
        unfold bindGs at hb
        split at hb
        · rename_i ρ1 h5
          refine ⟨v, ws, rfl, Z, G, ι, h, ρ, x, ρ1, R, S, r1, h5, fun σ1 S1 l1 k1 => ?_⟩
          refine ⟨Z, G, ι, h, ρ1, xs, ρ', R, S1, r2, hb, fun σ2 S2 l2 k2 => k σ2 S2 (l2.trans l1) fun i hi => ?_⟩
          have e : Ag.slots.gsl (.cons g gs) = g.slots ++ Ag.slots.gsl gs := rfl
          rw [e, List.mem_append, not_or] at hi
          exact (k2 i hi.2).trans (k1 i hi.1)
        · cases hb
end
end

/-! ### what loops go through -/
/-- an iterator serves the items while the lists stay -/
structure Jok (K : Wr) (G0 : Hp) (ι0 : List Addr) (s : Src) (J : It) : Prop where
  stop : ∀ Z G ι h H i, Up G0 G → Pre ι0 ι → HR K Z G ι h H → chk s.1 h → s.2.length = i → J.stop i H
  go : ∀ Z G ι h H i, Up G0 G → Pre ι0 ι → HR K Z G ι h H → chk s.1 h → i < s.2.length → J.go i H
  yld : ∀ Z G ι h H i v H' x, Up G0 G → Pre ι0 ι → HR K Z G ι h H → chk s.1 h → s.2[i]? = some x → J.yld i H v H' → ∃ G' ι', Nx K Z G ι H G' ι' h H' ∧ RV K G' ι' x v
abbrev rJ (K : Wr) : Hp → List Addr → Src → It → Prop := fun G ι s J => Jok K G ι s J
def tI (exc : List Str) (K : Wr) (W : WX) (r : Env' → MH → Res Src) : TI := fun σ H R => ∃ Z G ι h ρ, HR K Z G ι h H ∧ SR K G ι ρ σ ∧ RP exc K (rJ K) Z G ι H (r ρ h) R (fun cls d H' => W cls d σ H')
theorem _root_.L2.PI.weak {X : Cx} {tg e : Expr} {t t' : TI} (h : PI X tg e t) (k : ∀ σ H Q, t' σ H Q → t σ H Q) : PI X tg e t' := ⟨fun pins s σ H Q I q => h.run pins s σ H Q I (k σ H Q q)⟩
/-- an iterator that reads a row as it stands -/
theorem jok_of {K : Wr} {G0 : Hp} {ι0 : List Addr} {s : Src} {J : It} (rd : ∀ Z G ι h H, Up G0 G → Pre ι0 ι → HR K Z G ι h H → chk s.1 h → ∃ vs, RVs K G ι s.2 vs ∧ (∀ i, vs.length ≤ i → J.stop i H) ∧ (∀ i, i < vs.length → J.go i H) ∧ ∀ i v H', J.yld i H v H' → i < vs.length → H' = H ∧ vs[i]? = some v) : Jok K G0 ι0 s J where
  stop := fun Z G ι h H i a b c d e => by
    obtain ⟨vs, r, k1, k2, k3⟩ := rd Z G ι h H a b c d
    exact k1 i (by rw [← r.length]; exact Nat.le_of_eq e)
  go := fun Z G ι h H i a b c d e => by
    obtain ⟨vs, r, k1, k2, k3⟩ := rd Z G ι h H a b c d
    exact k2 i (by rw [← r.length]; exact e)
  yld := fun Z G ι h H i v H' x a b c d e y => by
    obtain ⟨vs, r, k1, k2, k3⟩ := rd Z G ι h H a b c d
    have hi : i < vs.length := by rw [← r.length]; exact (List.getElem?_eq_some_iff.mp e).1
    obtain ⟨rfl, q⟩ := k3 i v H' y hi
    obtain ⟨w, q2, q3⟩ := r.get e
    rw [q] at q2; cases q2
    exact ⟨G, ι, Nx.refl c, q3⟩
theorem seqL_jok {K : Wr} {G0 : Hp} {ι0 : List Addr} {s : Src} {a : Addr} (rd : ∀ Z G ι h H, Up G0 G → Pre ι0 ι → HR K Z G ι h H → chk s.1 h → ∃ vs, RVs K G ι s.2 vs ∧ SqL K.K H a vs) : Jok K G0 ι0 s (Itl K.K a) :=
  jok_of fun Z G ι h H x y z w => by
    obtain ⟨vs, r, q⟩ := rd Z G ι h H x y z w
    exact ⟨vs, r, fun i hi => ⟨vs, q, hi⟩, fun i hi => ⟨vs, vs[i], q, List.getElem?_eq_getElem hi⟩, fun i v H' y hi => ⟨y.1, y.2 vs q⟩⟩
theorem seqT_jok {K : Wr} {G0 : Hp} {ι0 : List Addr} {s : Src} {a : Addr} (rd : ∀ Z G ι h H, Up G0 G → Pre ι0 ι → HR K Z G ι h H → chk s.1 h → ∃ vs, RVs K G ι s.2 vs ∧ SqT K.K H a vs) : Jok K G0 ι0 s (Itt K.K a) :=
  jok_of fun Z G ι h H x y z w => by
    obtain ⟨vs, r, q⟩ := rd Z G ι h H x y z w
    exact ⟨vs, r, fun i hi => ⟨vs, q, hi⟩, fun i hi => ⟨vs, vs[i], q, List.getElem?_eq_getElem hi⟩, fun i v H' y hi => ⟨y.1, y.2 vs q⟩⟩
theorem str_jok {K : Wr} {G0 : Hp} {ι0 : List Addr} {x : Str} : Jok K G0 ι0 ([], x.cps.toList.map fun c => PV.str ⟨#[c]⟩) (Its x) :=
  jok_of fun Z G ι h H _ _ _ _ => by
    have e : ∀ l : List Nat, RVs K G ι (l.map fun c => PV.str ⟨#[c]⟩) (l.map fun c => V.str ⟨#[c]⟩) := fun l => by
      induction l with
      | nil => exact .nil
      | cons c l ih => exact .cons (.str _) ih
    refine ⟨x.cps.toList.map fun c => V.str ⟨#[c]⟩, e _, fun i hi => ?_, fun i hi => ?_, fun i v H' y hi => ?_⟩
    · simpa [Its] using hi
    · simpa [Its] using hi
    · obtain ⟨e1, c, e2, e3⟩ := y
      refine ⟨e1, ?_⟩
      subst e3
      rw [List.getElem?_map, Array.getElem?_toList, e2]
      rfl
theorem rng_jok {K : Wr} {G0 : Hp} {ι0 : List Addr} {lo : Int} {n : Nat} : Jok K G0 ι0 ([], (List.range n).map fun (k : Nat) => PV.int (lo + (k : Int))) (Itr lo n) :=
  jok_of fun Z G ι h H _ _ _ _ => by
    have e : ∀ l : List Nat, RVs K G ι (l.map fun (k : Nat) => PV.int (lo + (k : Int))) (l.map fun (k : Nat) => V.int (lo + (k : Int))) := fun l => by
      induction l with
      | nil => exact .nil
      | cons c l ih => exact .cons (.int _) ih
    refine ⟨(List.range n).map fun (k : Nat) => V.int (lo + (k : Int)), e _, fun i hi => ?_, fun i hi => ?_, fun i v H' y hi => ?_⟩
    · simpa [Itr] using hi
    · simpa [Itr] using hi
    · obtain ⟨e1, e2⟩ := y
      refine ⟨e1, ?_⟩
      subst e2
      have hi' : i < n := by simpa using hi
      rw [List.getElem?_map, List.getElem?_range hi']
      rfl
section
variable {X : Cx} {tg : Expr} {exc : List Str} {W : WX}
/-- over a list, a tuple, a text -/
def iAny (K : PySem.W.Frag) (tl : TE) : TI := fun σ H R => tl σ H fun x H1 => (∃ a, x = .ref a ∧ (((∃ xs, SqL K H1 a xs) ∧ R (Itl K a) H1) ∨ ((∃ xs, SqT K H1 a xs) ∧ R (Itt K a) H1))) ∨ ∃ y, x = .str y ∧ R (Its y) H1
theorem pi_any {l : Expr} {tl : TE} (hl : PE X l tl) : PI X tg l (iAny X.K tl) := by
  refine ⟨fun pins s σ H R I h => ?_⟩
  refine thn (hl.run pins s σ H _ I h) fun v s1 ⟨x, H1, I1, r1, q1⟩ => ?_
  rcases q1 with ⟨a, e, ⟨⟨xs, hq⟩, q⟩ | ⟨⟨xs, hq⟩, q⟩⟩ | ⟨y, e, q⟩
  · subst e
    cases r1
    obtain ⟨its, rv, p, hz⟩ := I1.list hq
    refine wpAny_pyIter_list p.isList ?_
    refine ⟨s1.heap.objs.size, [s1.heap.objs.size], _, _, H1, rfl, I1.kept (t' := s1.toks) fun b o e => Heap.get?_push_of_some _ e, turn_list a _, ⟨_, Heap.get?_push_size _ rfl, rfl, rfl⟩, fun b hb => ?_, q⟩
    have e : b = s1.heap.objs.size := by simpa using hb
    subst e
    exact I1.fpOk (Nat.le_refl _) (I1.hok.fresh (Nat.le_refl _))
  · subst e
    cases r1
    obtain ⟨its, rv, p, hz⟩ := I1.tuple hq
    refine wpAny_pyIter_tuple (show s1.heap.IsTuple a its.toArray from p) ?_
    refine ⟨s1.heap.objs.size, [s1.heap.objs.size], _, _, H1, rfl, I1.kept (t' := s1.toks) fun b o e => Heap.get?_push_of_some _ e, turn_tuple a _, ⟨_, Heap.get?_push_size _ rfl, rfl, rfl⟩, fun b hb => ?_, q⟩
    have e : b = s1.heap.objs.size := by simpa using hb
    subst e
    exact I1.fpOk (Nat.le_refl _) (I1.hok.fresh (Nat.le_refl _))
  · subst e
    obtain ⟨t, rfl⟩ := r1
    cases ha : y.cps.all (· < 128)
    · exact wpAny_pyIter_wide ha (pi_one (tk := s1.toks) I1 _ (turn_str _ y t "str_iterator" (.inr rfl)) ⟨_, Heap.get?_push_size _ rfl, rfl, rfl⟩ q)
    · exact wpAny_pyIter_ascii ha (pi_one (tk := s1.toks) I1 _ (turn_str _ y t "str_ascii_iterator" (.inl rfl)) ⟨_, Heap.get?_push_size _ rfl, rfl, rfl⟩ q)
theorem mi_any {l : Expr} {r : Env' → MH → Res PV} (hl : PE X l (tE exc (kx X) W r)) : PI X tg l (tI exc (kx X) W fun ρ h => (r ρ h).bind fun x h => match src x h with
    | some s => .ok s h
    | none => .stuck) := by
  refine (pi_any hl).weak fun σ H Q q => ?_
  obtain ⟨Z, G, ι, h, ρ, R, S, p⟩ := q
  refine ⟨Z, G, ι, h, ρ, R, S, p.bind fun x h1 G1 ι1 H1 vx n1 rx p1 => ?_⟩
  split at p1
  · rename_i s es
    unfold src at es
    split at es
    · cases es
      obtain ⟨a, vs, rfl, hs, rvs⟩ := rx.tup_inv
      refine .inl ⟨a, rfl, .inr ⟨⟨vs, Same.seqT n1.hr.sub hs.sqT⟩, RP.ok_here p1 n1.hr (seqT_jok fun Z' G' ι' h' H' a1 b1 c1 d1 => ⟨vs, rvs.mono a1 b1, Same.seqT c1.sub (a1.seqT hs.sqT)⟩)⟩⟩
    · cases es
      obtain ⟨a, vs, rfl, hs, rvs⟩ := rx.lst_inv
      refine .inl ⟨a, rfl, .inl ⟨⟨vs, .inl (rd_same n1.hr.sub hs)⟩, RP.ok_here p1 n1.hr (seqL_jok fun Z' G' ι' h' H' a1 b1 c1 d1 => ⟨vs, rvs.mono a1 b1, .inl (rd_same c1.sub (a1.rd hs))⟩)⟩⟩
    · rename_i y
      cases es
      have := rx.str_inv
      subst this
      exact .inr ⟨y, rfl, RP.ok_here p1 n1.hr str_jok⟩
    · rename_i n
      split at es
      · rename_i xs e
        cases es
        obtain ⟨a, vs, rfl, hn, hH, rvs⟩ := ref_lst n1.hr rx e
        refine .inl ⟨a, rfl, .inl ⟨⟨vs, .of hH⟩, RP.ok_here p1 n1.hr (seqL_jok fun Z' G' ι' h' H' a1 b1 c1 d1 => ?_)⟩⟩
        have e' := d1 (n, xs) (List.mem_singleton.mpr rfl)
        obtain ⟨a', vs', ea, hn', hH', rvs'⟩ := ref_lst c1 (.ref (b1 _ _ hn)) e'
        cases ea
        exact ⟨vs', rvs', .of hH'⟩
      · cases es
    · cases es
  · exact p1.elim
theorem mi_range1 {a : Expr} {p pos : Pos} {r : Env' → MH → Res PV} (hg : Gl X "range") (hm : X.mg "range" = none) (ha : PE X a (tE exc (kx X) W r)) (hs : starEach [a] X.env = [(false, eval a X.env)]) :
    PI X tg (.Call (.Name "range" p) [a] [] pos) (tI exc (kx X) W fun ρ h => (r ρ h).bind fun x h => match x with
    | .int j => if -(2 ^ 62) ≤ j ∧ j < 2 ^ 62 then .ok ([], (List.range j.toNat).map fun (k : Nat) => PV.int (k : Int)) h else .stuck
    | _ => .stuck) := by
  refine (pi_range1 hg hm (pa_cons ha pa_nil (by rw [hs]; rfl)) hs).weak fun σ H Q q => ?_
  obtain ⟨Z, G, ι, h, ρ, R, S, p⟩ := q
  refine ⟨Z, G, ι, h, ρ, R, S, p.bind fun x h1 G1 ι1 H1 vx n1 rx p1 => ?_⟩
  split at p1
  · rename_i j
    split at p1
    · rename_i hj
      refine ⟨j, by rw [rx.int_inv], hj.1, hj.2, RP.ok_here p1 n1.hr ?_⟩
      have := rng_jok (K := kx X) (G0 := G1) (ι0 := ι1) (lo := 0) (n := j.toNat)
      simpa using this
    · exact p1.elim
  · exact p1.elim
theorem mi_range2 {a b : Expr} {p pos : Pos} {ra rb : Env' → MH → Res PV} (hg : Gl X "range") (hm : X.mg "range" = none) (ha : PE X a (tE exc (kx X) W ra)) (hb : PE X b (tE exc (kx X) W rb)) (hs : starEach [a, b] X.env = [(false, eval a X.env), (false, eval b X.env)]) (hs2 : starEach [b] X.env = [(false, eval b X.env)]) :
    PI X tg (.Call (.Name "range" p) [a, b] [] pos) (tI exc (kx X) W fun ρ h => (ra ρ h).bind fun x h => (rb ρ h).bind fun y h => match x, y with
    | .int i, .int j => if -(2 ^ 62) ≤ i ∧ i < 2 ^ 62 ∧ -(2 ^ 62) ≤ j ∧ j < 2 ^ 62 then .ok ([], (List.range (j - i).toNat).map fun (k : Nat) => PV.int (i + (k : Int))) h else .stuck
    | _, _ => .stuck) := by
  refine (pi_range2 hg hm (pa_cons ha (pa_cons hb pa_nil (by rw [hs2]; rfl)) (by rw [hs, hs2])) hs hs2).weak fun σ H Q q => ?_
  obtain ⟨Z, G, ι, h, ρ, R, S, p⟩ := q
  refine ⟨Z, G, ι, h, ρ, R, S, p.bind fun x h1 G1 ι1 H1 vx n1 rx p1 => ?_⟩
  refine ⟨Z, G1, ι1, h1, ρ, n1.hr, S.mono n1.same n1.pre, p1.bind fun y h2 G2 ι2 H2 vy n2 ry p2 => ?_⟩
  split at p2
  · rename_i i j
    split at p2
    · rename_i hj
      exact ⟨i, j, by rw [rx.int_inv, ry.int_inv], hj, RP.ok_here p2 n2.hr rng_jok⟩
    · exact p2.elim
  · exact p2.elim
end
end Mx

end

section
set_option Elab.async false
set_option linter.all false
set_option maxRecDepth 100000
set_option maxHeartbeats 4000000
/-! zip of lists and tuples in loops; ranges with a step. -/
namespace Mx
open PySem PySem.Spec PyProof.Rows L2
/-- a list (true) or a tuple (false) -/
def rdK (k : Bool) (K : PySem.W.Frag) (H : Hp) (a : Addr) (xs : List V) : Prop := if k = true then SqL K H a xs else SqT K H a xs
def itK (k : Bool) (h : Heap) (it a : Addr) (i : Nat) : Prop := if k = true then h.IsListIter it a i else h.IsTupleIter it a i
def sqK (k : Bool) (h : Heap) (a : Addr) (items : Array Value) : Prop := if k = true then h.IsList a items else h.IsTuple a items
def obK (k : Bool) (a : Addr) : Obj := if k = true then { cls := .type "list_iterator", data := .fields #[.ref a, .int 0 0] } else { cls := .type "tuple_iterator", data := .fields #[.ref a, .int 0 0] }
theorem drawK {prog : Program} {w : World} {A : Around} (hh : A.handled = none) (k : Bool) (it a : Addr) (hne : a ≠ it) (items : Array Value) : Draws prog w A it [it, a] items.size (fun i v => items[i]? = some v) (fun i h => itK k h it a i ∧ sqK k h a items) := by
  cases k with
  | true => exact Draws.list hh it a hne items
  | false => exact Draws.tuple hh it a hne items
theorem begK (k : Bool) (a : Addr) (items : Array Value) : Begins (.ref a) (obK k a) (fun h => sqK k h a items) := by
  cases k with
  | true => exact begins_list a items
  | false => exact begins_tuple a items
theorem itK_obj {k : Bool} {h : Heap} {it a : Addr} {i : Nat} (e : itK k h it a i) : ∃ o, h.get? it = some o ∧ ∀ v, o.data ≠ .cell v := by
  cases k with
  | true => obtain ⟨o, ho, _, hd⟩ := (show h.IsListIter it a i from e); exact ⟨o, ho, fun v q => by rw [hd] at q; cases q⟩
  | false => obtain ⟨o, ho, _, hd⟩ := (show h.IsTupleIter it a i from e); exact ⟨o, ho, fun v q => by rw [hd] at q; cases q⟩
theorem itK_at {k : Bool} {h h' : Heap} {it a : Addr} {i : Nat} (e : itK k h it a i) (f : ∀ o, h.get? it = some o → h'.get? it = some o) : itK k h' it a i := by
  cases k with
  | true => exact (show h.IsListIter it a i from e).at fun o q => f o q
  | false => exact (show h.IsTupleIter it a i from e).at fun o q => f o q
theorem itK_0 {k : Bool} {h : Heap} {it a : Addr} (e : h.get? it = some (obK k a)) : itK k h it a 0 := by
  cases k with
  | true => exact ⟨_, e, rfl, rfl⟩
  | false => exact ⟨_, e, rfl, rfl⟩
section
variable {X : Cx} {pins : List (Addr × Obj)} {σ : L2.St} {H : Hp} {s : Shared}
theorem rdK_its (I : Inv X pins σ H s) {k : Bool} {a : Addr} {xs : List V} (h : rdK k X.K H a xs) : ∃ its : List Value, Vals xs its ∧ sqK k s.heap a its.toArray ∧ a < s.heap.objs.size := by
  cases k with
  | true =>
    obtain ⟨its, rv, p, hz⟩ := I.list h
    exact ⟨its, rv, p.isList, p.lt⟩
  | false =>
    obtain ⟨its, rv, p, hz⟩ := I.tuple h
    obtain ⟨o1, ho1, _⟩ := id p
    exact ⟨its, rv, (show s.heap.IsTuple a its.toArray from p), Heap.lt_size ho1⟩
theorem rdK_inj (I : Inv X pins σ H s) {k : Bool} {a : Addr} {xs ys : List V} (h : rdK k X.K H a xs) (h' : rdK k X.K H a ys) : xs = ys := by
  cases k with
  | true => exact I.list_inj h h'
  | false => exact I.tuple_inj h h'
end
/-- the turns of a zip -/
def ItZ (K : PySem.W.Frag) (k1 k2 : Bool) (a b : Addr) : It :=
  ⟨fun i H => ∃ (xs ys : List V) (x y : V), rdK k1 K H a xs ∧ rdK k2 K H b ys ∧ xs[i]? = some x ∧ ys[i]? = some y,
    fun i H v H' => ∃ T x y o, v = .ref T ∧ H T = none ∧ o.dict = none ∧ H' = upd H T (.frz o (.tup [x, y])) ∧ (∀ xs, rdK k1 K H a xs → xs[i]? = some x) ∧ ∀ ys, rdK k2 K H b ys → ys[i]? = some y,
    fun i H => ∃ xs ys : List V, rdK k1 K H a xs ∧ rdK k2 K H b ys ∧ i ≤ xs.length ∧ i ≤ ys.length ∧ (xs.length = i ∨ ys.length = i)⟩
theorem turn_zipK {P : Program} {w : World} {K : PySem.W.Frag} {elts : List Expr} {kk : Nat} {tpos : Pos} {k1 k2 : Bool} {a b z TI TO i1 i2 : Addr} (S : ZipSep2 z TI TO i1 i2 [i1, a] [i2, b]) (na : a ≠ i1) (nb : b ≠ i2) :
    Turn P w K (.Tuple elts kk tpos) (ItZ K k1 k2 a b) [z, TI, TO, i1, i2] z (fun i h => IsZip h z TI TO .none ∧ IsTupOf2 h TI (.ref i1) (.ref i2) ∧ (∃ x y, IsTupOf2 h TO x y) ∧ itK k1 h i1 a i ∧ itK k2 h i2 b i) where
  mem := by simp
  obj := fun i h st c hc => by
    obtain ⟨hz, hTI, ⟨x, y, hTO⟩, h1, h2⟩ := st
    have e' : c = z ∨ c = TI ∨ c = TO ∨ c = i1 ∨ c = i2 := by simpa using hc
    rcases e' with rfl | rfl | rfl | rfl | rfl
    · exact ⟨_, hz, fun v q => nomatch q⟩
    · exact ⟨_, hTI, fun v q => nomatch q⟩
    · exact ⟨_, hTO, fun v q => nomatch q⟩
    · exact itK_obj h1
    · exact itK_obj h2
  keep := fun i h h' st k => by
    obtain ⟨hz, hTI, ⟨x, y, hTO⟩, h1, h2⟩ := st
    exact ⟨k z (by simp) _ hz, k TI (by simp) _ hTI, ⟨x, y, k TO (by simp) _ hTO⟩, itK_at h1 fun o q => k i1 (by simp) o q, itK_at h2 fun o q => k i2 (by simp) o q⟩
  item := by
    intro X hP hw hK hc i pins s σ H E I hf st hg
    subst hP hw hK
    obtain ⟨hz, hTI, ⟨x0, y0, hTO⟩, h1, h2⟩ := st
    obtain ⟨xs, ys, x, y, hqx, hqy, hx, hy⟩ := hg
    obtain ⟨its, rv, p1, _⟩ := rdK_its I hqx
    obtain ⟨its2, rv2, p2, _⟩ := rdK_its I hqy
    obtain ⟨u, hu, ru⟩ := rv.get hx
    obtain ⟨u2, hu2, ru2⟩ := rv2.get hy
    have hzl : z < s.heap.objs.size := Heap.lt_size hz
    have D1 : Draws X.prog X.w X.A.in1 i1 [i1, a] its.toArray.size (fun i v => its.toArray[i]? = some v) (fun i h => itK k1 h i1 a i ∧ sqK k1 h a its.toArray) := drawK (A := X.A.in1) (I.ok.hd hc) k1 i1 a na its.toArray
    have D2 : Draws X.prog X.w X.A.in1 i2 [i2, b] its2.toArray.size (fun i v => its2.toArray[i]? = some v) (fun i h => itK k2 h i2 b i ∧ sqK k2 h b its2.toArray) := drawK (A := X.A.in1) (I.ok.hd hc) k2 i2 b nb its2.toArray
    have lu : i < its.toArray.size := by simpa using (List.getElem?_eq_some_iff.mp hu).1
    have lu2 : i < its2.toArray.size := by simpa using (List.getElem?_eq_some_iff.mp hu2).1
    refine wpAny_pyNext_zipD2_item S D1 D2 hz hTI hTO ⟨h1, p1⟩ ⟨h2, p2⟩ lu lu2 fun v1 v2 h' tk e1 e2 z' TO' st1 st2 hT hsz hk => ?_
    obtain rfl : u = v1 := by
      have : its[i]? = some v1 := by simpa using e1
      rw [hu] at this; exact Option.some.inj this
    obtain rfl : u2 = v2 := by
      have : its2[i]? = some v2 := by simpa using e2
      rw [hu2] at this; exact Option.some.inj this
    refine ⟨_, rfl, wpAny_letOwnedTupleGo_zip (s := { s with heap := h', toks := tk }) z' fun h'' z'' sb => ?_⟩
    have hT2 : h''.get? s.heap.objs.size = some { cls := .type "tuple", data := .seq #[u, u2] } := (sb.2 _ (Nat.ne_of_gt hzl)).trans hT
    have new : ObjOk X.prog X.w (upd H s.heap.objs.size (.frz { cls := .type "tuple", data := .seq #[u, u2] } (.tup [x, y]))) h'' s.heap.objs.size (.frz { cls := .type "tuple", data := .seq #[u, u2] } (.tup [x, y])) :=
      ⟨hT2, by show 2 ≤ sizeLine; decide, [u, u2], .cons ru (.cons ru2 .nil), ⟨_, hT2, rfl, _, rfl⟩⟩
    have kp : ∀ c o, c ∉ [z, TI, TO, i1, i2] → s.heap.get? c = some o → h''.get? c = some o := fun c o hb q =>
      (sb.2 c (fun q' => hb (by simp [q']))).trans (hk c o (fun q' => hb (by simp [q'])) (fun q' => hb (by simp [q'])) (fun q' => hb (by simp [q'])) (fun q' => hb (by simp [q'])) q)
    have I1 : Inv X pins σ (upd H s.heap.objs.size (.frz { cls := .type "tuple", data := .seq #[u, u2] } (.tup [x, y]))) { s with heap := h'', toks := tk } :=
      I.turnedNew (t' := tk) (ch := [z, TI, TO, i1, i2]) kp hf (Nat.le_refl _) new
    refine ⟨.ref s.heap.objs.size, _, I1, rfl, ⟨_, x, y, _, rfl, I.hok.fresh (Nat.le_refl _), rfl, rfl, fun l hl => by rw [rdK_inj I hl hqx]; exact hx, fun l hl => by rw [rdK_inj I hl hqy]; exact hy⟩, ⟨z'', ?_, ⟨u, u2, ?_⟩, ?_, ?_⟩, fun c hcm => ?_⟩
    · exact (sb.2 _ S.TIz).trans (hk _ _ S.TIz S.TITO S.TIi1 S.TIi2 hTI)
    · exact (sb.2 _ S.TOz).trans TO'
    · exact itK_at st1.1 fun o q => (sb.2 _ (Ne.symm S.zi1)).trans q
    · exact itK_at st2.1 fun o q => (sb.2 _ (Ne.symm S.zi2)).trans q
    · have hlt : c < s.heap.objs.size := by
        have e' : c = z ∨ c = TI ∨ c = TO ∨ c = i1 ∨ c = i2 := by simpa using hcm
        rcases e' with rfl | rfl | rfl | rfl | rfl
        · exact hzl
        · exact Heap.lt_size hTI
        · exact Heap.lt_size hTO
        · obtain ⟨_, e1, _⟩ := itK_obj h1; exact Heap.lt_size e1
        · obtain ⟨_, e2, _⟩ := itK_obj h2; exact Heap.lt_size e2
      rw [upd_ne (Nat.ne_of_lt hlt)]
      exact (hf c hcm).1
  done := by
    intro X hP hw hK hc i pins s σ H E I hf st hg
    subst hP hw hK
    obtain ⟨hz, hTI, ⟨x0, y0, hTO⟩, h1, h2⟩ := st
    obtain ⟨xs, ys, hqx, hqy, g1, g2, hend⟩ := hg
    obtain ⟨its, rv, p1, _⟩ := rdK_its I hqx
    obtain ⟨its2, rv2, p2, _⟩ := rdK_its I hqy
    have l1 := rv.length
    have l2 := rv2.length
    have D1 : Draws X.prog X.w X.A.in1 i1 [i1, a] its.toArray.size (fun i v => its.toArray[i]? = some v) (fun i h => itK k1 h i1 a i ∧ sqK k1 h a its.toArray) := drawK (A := X.A.in1) (I.ok.hd hc) k1 i1 a na its.toArray
    have D2 : Draws X.prog X.w X.A.in1 i2 [i2, b] its2.toArray.size (fun i v => its2.toArray[i]? = some v) (fun i h => itK k2 h i2 b i ∧ sqK k2 h b its2.toArray) := drawK (A := X.A.in1) (I.ok.hd hc) k2 i2 b nb its2.toArray
    refine wpAny_pyNext_zipD2_end S D1 D2 hz hTI hTO ⟨h1, p1⟩ ⟨h2, p2⟩ (by simp only [List.size_toArray]; omega) (by simp only [List.size_toArray]; omega) (by simp only [List.size_toArray]; omega) fun h' tk hk => ⟨rfl, ?_⟩
    exact I.turnedL (t' := tk) (ch := [z, TI, TO, i1, i2]) (fun c o hb q =>
      hk c o (fun q' => hb (by simp [q'])) (fun q' => hb (by simp [q'])) (fun q' => hb (by simp [q'])) (fun q' => hb (by simp [q'])) q) hf
  self := fun A i s Q E st h => wpAny_pyIter_zip st.1 h
def iZipK (K : PySem.W.Frag) (ta : TA) : TI := fun σ H R => ta σ H fun vs H1 => ∃ k1 k2 a b xs ys, vs = [.ref a, .ref b] ∧ rdK k1 K H1 a xs ∧ rdK k2 K H1 b ys ∧ R (ItZ K k1 k2 a b) H1
theorem pi_zipK {X : Cx} {e e2 : Expr} {ta : TA} {p pos tpos : Pos} {elts : List Expr} {kk : Nat} (hg : Gl X "zip") (hm : X.mg "zip" = none) (ha : PA X [e, e2] ta)
    (hs : starEach [e, e2] X.env = (false, eval e X.env) :: starEach [e2] X.env) (hpl : (backTo pos (starEach [e2] X.env)).any (·.1) = false) :
    PI X (.Tuple elts kk tpos) (.Call (.Name "zip" p) [e, e2] [] pos) (iZipK X.K ta) := by
  refine ⟨fun pins s σ H R I h => ?_⟩
  refine Call_ (ld_blt I hg hm PyProof.Rows.boot_zip (PyProof.Rows.callWith_type1 (thn (ha.run pos pins s σ H _ I h) fun us s1 ⟨vs, H1, I1, r1, q1⟩ => ?_) hs hpl))
  obtain ⟨k1, k2, a, b, xs, ys, rfl, hqx, hqy, q⟩ := q1
  obtain ⟨u1, u2, rfl, r2, r3⟩ := r1.two
  cases r2
  cases r3
  obtain ⟨its, rv1, p1, lt1⟩ := rdK_its I1 hqx
  obtain ⟨its2, rv2, p2, lt2⟩ := rdK_its I1 hqy
  refine zip_begins2 (begK k1 a its.toArray) (begK k2 b its2.toArray) p1 p2 fun h' hz hTI hTO e1 e2 hsz hkp => wpAny_pyIter_zip hz ?_
  have I2 : Inv X pins σ H1 { s1 with heap := h' } := I1.kept (t' := s1.toks) hkp
  have S := zip_sep2 (N := s1.heap.objs.size) (fp1 := [a]) (fp2 := [b]) (fun c hc => by rw [List.mem_singleton.mp hc]; exact lt1) (fun c hc => by rw [List.mem_singleton.mp hc]; exact lt2)
  refine ⟨s1.heap.objs.size + 4, [s1.heap.objs.size + 4, s1.heap.objs.size + 2, s1.heap.objs.size + 3, s1.heap.objs.size, s1.heap.objs.size + 1], _, _, H1, rfl, I2, turn_zipK S (Nat.ne_of_lt lt1) (Nat.ne_of_lt (Nat.lt_succ_of_lt lt2)), ⟨hz, hTI, ⟨_, _, hTO⟩, itK_0 e1, itK_0 e2⟩, fun c hcm => ?_, q⟩
  have hle : s1.heap.objs.size ≤ c := by
    have e' : c = s1.heap.objs.size + 4 ∨ c = s1.heap.objs.size + 2 ∨ c = s1.heap.objs.size + 3 ∨ c = s1.heap.objs.size ∨ c = s1.heap.objs.size + 1 := by simpa using hcm
    rcases e' with z | z | z | z | z
    · rw [z]; exact Nat.le_add_right _ _
    · rw [z]; exact Nat.le_add_right _ _
    · rw [z]; exact Nat.le_add_right _ _
    · rw [z]; exact Nat.le_refl _
    · rw [z]; exact Nat.le_add_right _ _
  exact I1.fpOk hle (I1.hok.fresh hle)
/-! ### what they read -/
section
variable {X : Cx} {tg : Expr} {exc : List Str} {W : WX}
/-- one side of a zip: a list or a tuple that stands -/
theorem src_rd {K : Wr} {Z : List Addr} {G1 : Hp} {ι1 : List Addr} {h1 : MH} {H1 : Hp} {x : PV} {v : V} {s : Src} (R : HR K Z G1 ι1 h1 H1) (rx : RV K G1 ι1 x v) (e : src x h1 = some s) (ns : isStr x = false) :
    ∃ k a vs, v = .ref a ∧ rdK k K.K H1 a vs ∧ ∀ Z G ι h H, Up G1 G → Pre ι1 ι → HR K Z G ι h H → chk s.1 h → ∃ ws, RVs K G ι s.2 ws ∧ rdK k K.K H a ws := by
  unfold src at e
  split at e
  · cases e
    obtain ⟨a, vs, rfl, hs, rvs⟩ := rx.tup_inv
    exact ⟨false, a, vs, rfl, Same.seqT R.sub hs.sqT, fun Z' G' ι' h' H' a1 b1 c1 d1 => ⟨vs, rvs.mono a1 b1, Same.seqT c1.sub (a1.seqT hs.sqT)⟩⟩
  · cases e
    obtain ⟨a, vs, rfl, hs, rvs⟩ := rx.lst_inv
    exact ⟨true, a, vs, rfl, .inl (rd_same R.sub hs), fun Z' G' ι' h' H' a1 b1 c1 d1 => ⟨vs, rvs.mono a1 b1, .inl (rd_same c1.sub (a1.rd hs))⟩⟩
  · cases ns
  · rename_i n
    split at e
    · rename_i xs e2
      cases e
      obtain ⟨a, vs, rfl, hn, hH, rvs⟩ := ref_lst R rx e2
      refine ⟨true, a, vs, rfl, .of hH, fun Z' G' ι' h' H' a1 b1 c1 d1 => ?_⟩
      have e' := d1 (n, xs) (List.mem_singleton.mpr rfl)
      obtain ⟨a', vs', ea, hn', hH', rvs'⟩ := ref_lst c1 (.ref (b1 _ _ hn)) e'
      cases ea
      exact ⟨vs', rvs', .of hH'⟩
    · cases e
  · cases e
theorem zip_get : ∀ {xs ys : List PV} {i : Nat} {p : PV × PV}, (xs.zip ys)[i]? = some p → xs[i]? = some p.1 ∧ ys[i]? = some p.2 := fun {xs ys i p} e => by
  have := List.getElem?_zip_eq_some.mp e
  exact this
theorem chk_app {l l' : List (Nat × List PV)} {h : MH} (c : chk (l ++ l') h) : chk l h ∧ chk l' h := ⟨fun p hp => c p (List.mem_append_left _ hp), fun p hp => c p (List.mem_append_right _ hp)⟩
theorem mi_zip2 {a b : Expr} {z : Str} {p pos tpos : Pos} {elts : List Expr} {kk : Nat} {ra rb : Env' → MH → Res PV} (hzn : z = ("zip" : Str)) (hg : Gl X z) (hm : X.mg z = none) (ha : PE X a (tE exc (kx X) W ra)) (hb : PE X b (tE exc (kx X) W rb))
    (hs : starEach [a, b] X.env = [(false, eval a X.env), (false, eval b X.env)]) (hs2 : starEach [b] X.env = [(false, eval b X.env)]) :
    PI X (.Tuple elts kk tpos) (.Call (.Name z p) [a, b] [] pos) (tI exc (kx X) W fun ρ h => (ra ρ h).bind fun x h => (rb ρ h).bind fun y h => match src x h, src y h with
    | some s, some t => if isStr x = false ∧ isStr y = false then .ok (s.1 ++ t.1, (s.2.zip t.2).map fun p => .tup [p.1, p.2]) h else .stuck
    | _, _ => .stuck) := by
  subst hzn
  refine (pi_zipK hg hm (pa_cons ha (pa_cons hb pa_nil (by rw [hs2]; rfl)) (by rw [hs, hs2])) (by rw [hs, hs2]) (by rw [hs2]; rfl)).weak fun σ H Q q => ?_
  obtain ⟨Z, G, ι, h, ρ, R, S, p⟩ := q
  refine ⟨Z, G, ι, h, ρ, R, S, p.bind fun x h1 G1 ι1 H1 vx n1 rx p1 => ?_⟩
  refine ⟨Z, G1, ι1, h1, ρ, n1.hr, S.mono n1.same n1.pre, p1.bind fun y h2 G2 ι2 H2 vy n2 ry p2 => ?_⟩
  split at p2
  · rename_i s t e1 e2
    split at p2
    · rename_i hn
      obtain ⟨k1, a1, vs, rfl, hd1, rd1⟩ := src_rd n2.hr (rx.mono n2.same n2.pre) e1 hn.1
      obtain ⟨k2, b1, ws, rfl, hd2, rd2⟩ := src_rd n2.hr ry e2 hn.2
      refine ⟨k1, k2, a1, b1, vs, ws, rfl, hd1, hd2, RP.ok_here p2 n2.hr ?_⟩
      have len : ∀ {Z G ι h H}, Up G2 G → Pre ι2 ι → HR (kx X) Z G ι h H → chk (s.1 ++ t.1) h → ∃ us ws, RVs (kx X) G ι s.2 us ∧ RVs (kx X) G ι t.2 ws ∧ rdK k1 X.K H a1 us ∧ rdK k2 X.K H b1 ws := fun {Z G ι h H} u1 u2 u3 u4 => by
        obtain ⟨c1, c2⟩ := chk_app u4
        obtain ⟨us, r1, q1⟩ := rd1 Z G ι h H u1 u2 u3 c1
        obtain ⟨ws, r2, q2⟩ := rd2 Z G ι h H u1 u2 u3 c2
        exact ⟨us, ws, r1, r2, q1, q2⟩
      refine ⟨fun Z G ι h H i u1 u2 u3 u4 u5 => ?_, fun Z G ι h H i u1 u2 u3 u4 u5 => ?_, fun Z G ι h H i v H' x u1 u2 u3 u4 u5 u6 => ?_⟩
      · obtain ⟨us, ws, r1, r2, q1, q2⟩ := len u1 u2 u3 u4
        have hi : (s.2.zip t.2).length = i := by simpa using u5
        rw [List.length_zip] at hi
        have e1 := r1.length
        have e2 := r2.length
        exact ⟨us, ws, q1, q2, by omega, by omega, by omega⟩
      · obtain ⟨us, ws, r1, r2, q1, q2⟩ := len u1 u2 u3 u4
        have hi : i < (s.2.zip t.2).length := by simpa using u5
        rw [List.length_zip] at hi
        have h1 : i < us.length := by rw [← r1.length]; omega
        have h2 : i < ws.length := by rw [← r2.length]; omega
        exact ⟨us, ws, us[i], ws[i], q1, q2, List.getElem?_eq_getElem h1, List.getElem?_eq_getElem h2⟩
      · obtain ⟨us, ws, r1, r2, q1, q2⟩ := len u1 u2 u3 u4
        obtain ⟨T, vx, vy, o, rfl, hT, ho, rfl, f1, f2⟩ := u6
        rw [List.getElem?_map] at u5
        cases ez : (s.2.zip t.2)[i]? with
        | none => rw [ez] at u5; cases u5
        | some pr =>
          rw [ez] at u5
          cases u5
          obtain ⟨g1, g2⟩ := zip_get ez
          obtain ⟨w1, k1', m1⟩ := r1.get g1
          obtain ⟨w2, k2', m2⟩ := r2.get g2
          have e1' := f1 us q1
          rw [k1'] at e1'; cases e1'
          have e2' := f2 ws q2
          rw [k2'] at e2'; cases e2'
          have gp := u3.gnone hT
          refine ⟨upd G T (.frz o (.tup [vx, vy])), ι, ⟨same_upd gp, Pre.refl _, u3.laid hT, fun z hz => upd_ne fun e => u3.freshZ hT (e ▸ hz)⟩, ?_⟩
          exact .tup (.inl ⟨o, upd_same, ho⟩) (.cons (m1.mono (same_upd gp) (Pre.refl _)) (.cons (m2.mono (same_upd gp) (Pre.refl _)) .nil))
    · exact p2.elim
  · exact p2.elim
theorem rngC_jok {K : Wr} {G0 : Hp} {ι0 : List Addr} {lo c : Int} {n : Nat} : Jok K G0 ι0 ([], (List.range n).map fun (t : Nat) => PV.int (lo + (t : Int) * c)) (Itc lo c n) :=
  jok_of fun Z G ι h H _ _ _ _ => by
    have e : ∀ l : List Nat, RVs K G ι (l.map fun (t : Nat) => PV.int (lo + (t : Int) * c)) (l.map fun (t : Nat) => V.int (lo + (t : Int) * c)) := fun l => by
      induction l with
      | nil => exact .nil
      | cons _ l ih => exact .cons (.int _) ih
    refine ⟨(List.range n).map fun (t : Nat) => V.int (lo + (t : Int) * c), e _, fun i hi => ?_, fun i hi => ?_, fun i v H' y hi => ?_⟩
    · simpa [Itc] using hi
    · simpa [Itc] using hi
    · obtain ⟨e1, e2⟩ := y
      refine ⟨e1, ?_⟩
      subst e2
      have hi' : i < n := by simpa using hi
      rw [List.getElem?_map, List.getElem?_range hi']
      rfl
theorem mi_range3 {a b c : Expr} {z : Str} {p pos : Pos} {ra rb rc : Env' → MH → Res PV} (hzn : z = ("range" : Str)) (hg : Gl X z) (hm : X.mg z = none) (ha : PE X a (tE exc (kx X) W ra)) (hb : PE X b (tE exc (kx X) W rb)) (hc : PE X c (tE exc (kx X) W rc))
    (hs : starEach [a, b, c] X.env = [(false, eval a X.env), (false, eval b X.env), (false, eval c X.env)]) (hs2 : starEach [b, c] X.env = [(false, eval b X.env), (false, eval c X.env)]) (hs3 : starEach [c] X.env = [(false, eval c X.env)]) :
    PI X tg (.Call (.Name z p) [a, b, c] [] pos) (tI exc (kx X) W fun ρ h => (ra ρ h).bind fun x h => (rb ρ h).bind fun y h => (rc ρ h).bind fun z h => match x, y, z with
    | .int i, .int j, .int k => if k ≠ 0 ∧ k.natAbs < 1073741824 ∧ Builtin.Range.small i j k = true then .ok ([], (List.range (Builtin.Range.rangeSize i j k).toNat).map fun (t : Nat) => PV.int (i + (t : Int) * k)) h else .stuck
    | _, _, _ => .stuck) := by
  subst hzn
  refine (pi_range3 hg hm (pa_cons ha (pa_cons hb (pa_cons hc pa_nil (by rw [hs3]; rfl)) (by rw [hs2, hs3])) (by rw [hs, hs2])) (by rw [hs, hs2]) (by rw [hs2]; rfl)).weak fun σ H Q q => ?_
  obtain ⟨Z, G, ι, h, ρ, R, S, p⟩ := q
  refine ⟨Z, G, ι, h, ρ, R, S, p.bind fun x h1 G1 ι1 H1 vx n1 rx p1 => ?_⟩
  refine ⟨Z, G1, ι1, h1, ρ, n1.hr, S.mono n1.same n1.pre, p1.bind fun y h2 G2 ι2 H2 vy n2 ry p2 => ?_⟩
  refine ⟨Z, G2, ι2, h2, ρ, n2.hr, S.mono (n1.same.trans n2.same) (n1.pre.trans n2.pre), p2.bind fun z h3 G3 ι3 H3 vz n3 rz p3 => ?_⟩
  split at p3
  · rename_i i j k
    split at p3
    · rename_i hk
      refine ⟨i, j, k, (Builtin.Range.rangeSize i j k).toNat, by rw [rx.int_inv, ry.int_inv, rz.int_inv], ⟨hk.1, hk.2.1, hk.2.2, ?_⟩, RP.ok_here p3 n3.hr rngC_jok⟩
      have : 0 ≤ Builtin.Range.rangeSize i j k := by
        have k0 := hk.1
        unfold Builtin.Range.rangeSize
        split
        · split
          · have := Int.ediv_nonneg (a := j - i - 1) (b := k) (by omega) (by omega)
            omega
          · exact Int.le_refl _
        · split
          · have := Int.ediv_nonneg (a := i - j - 1) (b := -k) (by omega) (by omega)
            omega
          · exact Int.le_refl _
      omega
    · exact p3.elim
  · exact p3.elim
end
end Mx

end

section
set_option Elab.async false
set_option linter.all false
set_option maxRecDepth 100000
set_option maxHeartbeats 4000000
/-! Comprehensions. -/
namespace Mx
open PySem PySem.Spec PyProof.Rows L2
section
variable {K : Wr} {Z : List Addr} {G : Hp} {ι : List Addr} {h : MH} {H : Hp}
theorem HR.zless {D : Addr} (R : HR K (D :: Z) G ι h H) : HR K Z G ι h H := ⟨R.sub, R.len, R.nd, R.out, R.obj, fun z hz => R.zz z (List.mem_cons_of_mem _ hz)⟩
/-- a thing that is being made -/
theorem HR.make {D : Addr} {o : HO} (R : HR K Z G ι h H) (hD : H D = none) : HR K (D :: Z) G ι h (upd H D o) := by
  have gp := R.gnone hD
  have np := R.fresh hD
  refine ⟨fun b u q => ?_, R.len, R.nd, R.out, fun n a ob e1 e2 => ?_, fun z hz => ?_⟩
  · rw [upd_ne (ne_of_none q gp)]; exact R.sub b u q
  · have : a ≠ D := fun e => np (e ▸ List.mem_of_getElem? e1)
    rw [upd_ne this]; exact R.obj n a ob e1 e2
  · rcases List.mem_cons.mp hz with rfl | hz
    · exact ⟨gp, np, o, upd_same⟩
    · obtain ⟨z1, z2, u, z3⟩ := R.zz z hz
      have : z ≠ D := fun e => R.freshZ hD (e ▸ hz)
      rw [upd_ne this]
      exact ⟨z1, z2, u, z3⟩
theorem HR.zput {D : Addr} {o : HO} (R : HR K (D :: Z) G ι h H) : HR K (D :: Z) G ι h (upd H D o) := by
  obtain ⟨gp, np, _⟩ := R.zz D List.mem_cons_self
  refine ⟨fun b u q => ?_, R.len, R.nd, R.out, fun n a ob e1 e2 => ?_, fun z hz => ?_⟩
  · rw [upd_ne (ne_of_none q gp)]; exact R.sub b u q
  · have : a ≠ D := fun e => np (e ▸ List.mem_of_getElem? e1)
    rw [upd_ne this]; exact R.obj n a ob e1 e2
  · obtain ⟨z1, z2, u, z3⟩ := R.zz z hz
    by_cases hzD : z = D
    · subst hzD; exact ⟨z1, z2, o, upd_same⟩
    · rw [upd_ne hzD]; exact ⟨z1, z2, u, z3⟩
/-- it is made, it changes no more -/
theorem HR.doneF {D : Addr} {o : HO} (R : HR K (D :: Z) G ι h H) (e : H D = some o) (hz : D ∉ Z) : HR K Z (upd G D o) ι h H := by
  obtain ⟨gp, np, _⟩ := R.zz D List.mem_cons_self
  refine ⟨fun b u q => ?_, R.len, R.nd, fun a ha => ?_, fun n a ob e1 e2 => (R.obj n a ob e1 e2).mono (same_upd gp) (Pre.refl _), fun z hzz => ?_⟩
  · by_cases hb : b = D
    · subst hb; rw [upd_same] at q; cases q; exact e
    · rw [upd_ne hb] at q; exact R.sub b u q
  · have : a ≠ D := fun e => np (e ▸ ha)
    rw [upd_ne this]; exact R.out a ha
  · have : z ≠ D := fun e => hz (e ▸ hzz)
    rw [upd_ne this]; exact R.zz z (List.mem_cons_of_mem _ hzz)
/-- it is made, it goes on changing -/
theorem HR.doneR {D : Addr} {m : MO} (R : HR K (D :: Z) G ι h H) (ro : RO K G (ι ++ [D]) m (H D)) (hz : D ∉ Z) : HR K Z G (ι ++ [D]) (h ++ [m]) H := by
  obtain ⟨gp, np, _⟩ := R.zz D List.mem_cons_self
  refine ⟨R.sub, by simp [R.len], ?_, fun a ha => ?_, fun n a ob e1 e2 => ?_, fun z hzz => ?_⟩
  · rw [List.nodup_append]
    refine ⟨R.nd, by simp, fun a ha b hb => ?_⟩
    have : b = D := by simpa using hb
    subst this
    exact fun e => np (e ▸ ha)
  · rcases List.mem_append.mp ha with ha | ha
    · exact R.out a ha
    · have : a = D := by simpa using ha
      subst this
      intro u q
      rw [gp] at q; cases q
  · by_cases hn : n < ι.length
    · rw [List.getElem?_append_left hn] at e1
      rw [List.getElem?_append_left (by rw [← R.len]; exact hn)] at e2
      exact (R.obj n a ob e1 e2).mono (Up.refl _) (Pre.append _ _)
    · have hn' : n = ι.length := by
        have := (List.getElem?_eq_some_iff.mp e1).1
        rw [List.length_append, List.length_singleton] at this
        omega
      subst hn'
      have e1' : D = a := by simpa using e1
      have e2' : m = ob := by
        rw [R.len] at e2
        simpa using e2
      subst e1' e2'
      exact ro
  · obtain ⟨z1, z2, u, z3⟩ := R.zz z (List.mem_cons_of_mem _ hzz)
    refine ⟨z1, fun q => ?_, u, z3⟩
    rcases List.mem_append.mp q with q | q
    · exact z2 q
    · have : z = D := by simpa using q
      exact hz (this ▸ hzz)
theorem Nx.zless {D : Addr} {G1 : Hp} {ι1 : List Addr} {h1 : MH} {H1 : Hp} (n : Nx K (D :: Z) G ι H G1 ι1 h1 H1) : Nx K Z G ι H G1 ι1 h1 H1 := ⟨n.same, n.pre, n.hr.zless, fun z hz => n.zz z (List.mem_cons_of_mem _ hz)⟩
end
section
variable {K : Wr} {Z : List Addr} {G G1 : Hp} {ι ι1 : List Addr} {h h1 : MH} {H H1 : Hp} {α β γ δ μ : Type} {exc : List Str}
variable {R : Hp → List Addr → α → β → Prop} {R' : Hp → List Addr → γ → δ → Prop} {E E' : XK}
/-- a step within what may raise nothing, while D is made -/
theorem RP.bindN {D : Addr} {A : Res α} {B : α → MH → Res μ} {f : μ → MH → Res γ} {Q : δ → Hp → Prop} {Q1 : β → Hp → Prop} (p : RP exc K R' Z G ι H ((Res.nox (A.bind B)).bind f) Q E)
    (k : ∀ a h1 G1 ι1 H1 b, Nx K (D :: Z) G ι H G1 ι1 h1 H1 → R G1 ι1 a b → RP exc K R' Z G1 ι1 H1 ((Res.nox (B a h1)).bind f) Q E → Q1 b H1) : RP exc K R (D :: Z) G ι H A Q1 E' := by
  cases A with
  | ok a h' => exact fun G' ι' H' b n q => k a h' G' ι' H' b n q (RP.later p n.zless)
  | exn c v h' => exact p.elim
  | stuck => exact p.elim
end
theorem compL_len {body : PV → MH → Res (Option PV)} {l : List (Nat × List PV)} : ∀ {xs acc : List PV} {h : MH} {ys : List PV} {h' : MH}, compL body l xs acc h = .ok ys h' → acc.length ≤ ys.length
  | [], acc, h, ys, h', e => by
    unfold compL at e
    split at e
    · cases e; exact Nat.le_refl _
    · cases e
  | x :: xs, acc, h, ys, h', e => by
    unfold compL at e
    split at e
    · cases q : body x h with
      | stuck => rw [q] at e; cases e
      | exn c v h => rw [q] at e; cases e
      | ok o h1 =>
        rw [q] at e
        have := compL_len (show compL body l xs _ h1 = _ from e)
        cases o with
        | none => exact this
        | some y => rw [List.length_append, List.length_singleton] at this; omega
    · cases e
theorem compL_nox {f : PV → MH → Res (Option PV)} {l : List (Nat × List PV)} : ∀ {xs acc : List PV} {h : MH} {c v h'}, compL (fun x h => (f x h).nox) l xs acc h ≠ .exn c v h'
  | [], acc, h, c, v, h', e => by
    unfold compL at e
    split at e <;> cases e
  | x :: xs, acc, h, c, v, h', e => by
    unfold compL at e
    split at e
    · cases q : f x h with
      | stuck => rw [q] at e; cases e
      | exn c v h => rw [q] at e; cases e
      | ok o h1 =>
        rw [q] at e
        exact compL_nox (show compL (fun x h => (f x h).nox) l xs _ h1 = _ from e)
    · cases e

section
variable {X : Cx} {exc : List Str} {W : WX}
abbrev W0 : WX := fun _ _ _ _ => False
/-- one comprehension's run -/
noncomputable def compR (r : Bool) (ri : Env' → MH → Res Src) (g : Ag) (vs : List Nat) (rt : Env' → MH → Res Bool) (re : Env' → MH → Res PV) : Env' → MH → Res PV := fun ρ h => (ri ρ h).bind fun s h => (compL (fun x h => Res.nox (match bindG g x (wipeP ρ vs) h with
      | some ρ' => (rt ρ' h).bind fun b h => if b = true then (re ρ' h).bind fun y h => .ok (some y) h else .ok none h
      | none => .stuck)) s.1 s.2 [] h).bind fun xs h => if xs.length ≤ sizeLine then mkLst r xs h else .stuck
theorem comp_fin {K : Wr} {Z : List Addr} {G : Hp} {ι : List Addr} {h : MH} {H : Hp} {D : Addr} {acc : List PV} {vacc : List V} {r : Bool} {Q : VK} {E : XK} (R : HR K (D :: Z) G ι h H) (hz : D ∉ Z) (e : H D = some (.lst vacc)) (ra : RVs K G ι acc vacc) (p : RP exc K (rV K) Z G ι H (mkLst r acc h) Q E) : Q (.ref D) H := by
  obtain ⟨gp, np, _⟩ := R.zz D List.mem_cons_self
  unfold mkLst at p
  split at p
  · have R2 := R.doneR (m := .lst acc) (by rw [e]; exact .lst (ra.mono (Up.refl _) (Pre.append _ _))) hz
    refine p G (ι ++ [D]) H (.ref D) ⟨Up.refl _, Pre.append _ _, R2, fun _ _ => rfl⟩ (.ref ?_)
    rw [← R.len]; simp
  · have R2 := R.doneF e hz
    refine p (upd G D (.lst vacc)) ι H (.ref D) ⟨same_upd gp, Pre.refl _, R2, fun _ _ => rfl⟩ (.lst (.inl upd_same) (ra.mono (same_upd gp) (Pre.refl _)))
theorem tLc_weak {K : Wr} {r : Bool} {ri : Env' → MH → Res Src} {g : Ag} {vs : List Nat} {rt : Env' → MH → Res Bool} {re : Env' → MH → Res PV} (hsl : ∀ i ∈ g.slots, i ∈ vs) {σ : L2.St} {H : Hp} {Q : VK}
    (q : tE exc K W (compR r ri g vs rt re) σ H Q) : tLc (tI exc K W ri) (tG K g) (tT exc K W0 rt) (tE exc K W0 re) vs σ H Q := by
  obtain ⟨Z, G, ι, h, ρ, R, S, p⟩ := q
  unfold compR at p
  refine ⟨Z, G, ι, h, ρ, R, S, p.bind fun s h1 G1 ι1 H1 J n1 hJ p1 => ?_⟩
  intro D hD
  have hzD : D ∉ Z := n1.hr.freshZ hD
  generalize hbody : (fun (x : PV) (h : MH) => Res.nox (match bindG g x (wipeP ρ vs) h with
      | some ρ' => (rt ρ' h).bind fun b h => if b = true then (re ρ' h).bind fun y h => Res.ok (some y) h else .ok none h
      | none => .stuck)) = body at p1
  refine ⟨fun i m H' => m = s.2.length - i ∧ i ≤ s.2.length ∧ ∃ G2 ι2 h2 acc vacc, Up G1 G2 ∧ Pre ι1 ι2 ∧ HR K (D :: Z) G2 ι2 h2 H' ∧ (∀ z ∈ Z, H' z = H1 z) ∧ H' D = some (.lst vacc) ∧ RVs K G2 ι2 acc vacc ∧
    RP exc K (rV K) Z G2 ι2 H' ((compL body s.1 (s.2.drop i) acc h2).bind fun xs h => if xs.length ≤ sizeLine then mkLst r xs h else .stuck) Q (fun cls d H' => W cls d σ H'), ⟨_, rfl, Nat.zero_le _, G1, ι1, h1, [], [], Up.refl _, Pre.refl _, n1.hr.make hD, fun z hz => upd_ne fun e => hzD (e ▸ hz), upd_same, .nil, ?_⟩, ?_⟩
  · refine RP.later p1 (h1 := h1) ⟨Up.refl _, Pre.refl _, (n1.hr.make hD).zless, fun z hz => upd_ne fun e => hzD (e ▸ hz)⟩
  · rintro i m H2 ⟨rfl, hi, G2, ι2, h2, acc, vacc, s2, pr2, R2, z2, eD, ra, p2⟩
    by_cases hlt : i < s.2.length
    · have ex : s.2[i]? = some s.2[i] := List.getElem?_eq_getElem hlt
      rw [List.drop_eq_getElem_cons hlt] at p2
      unfold compL at p2
      split at p2
      · rename_i hchk
        refine .inr ⟨hJ.go (D :: Z) G2 ι2 h2 H2 i s2 pr2 R2 hchk hlt, fun H' => ∃ m' < s.2.length - i, m' = s.2.length - (i + 1) ∧ ∃ G2 ι2 h2 acc vacc, Up G1 G2 ∧ Pre ι1 ι2 ∧ HR K (D :: Z) G2 ι2 h2 H' ∧ (∀ z ∈ Z, H' z = H1 z) ∧ H' D = some (.lst vacc) ∧ RVs K G2 ι2 acc vacc ∧
          RP exc K (rV K) Z G2 ι2 H' ((compL body s.1 (s.2.drop (i + 1)) acc h2).bind fun xs h => if xs.length ≤ sizeLine then mkLst r xs h else .stuck) Q (fun cls d H' => W cls d σ H'), ?_, ?_⟩
        · rintro H' ⟨m', hm, e, w⟩
          exact ⟨m', hm, e, hlt, w⟩
        · intro xv H3 hy
          obtain ⟨G3, ι3, n3, rx⟩ := hJ.yld (D :: Z) G2 ι2 h2 H2 i xv H3 _ s2 pr2 R2 hchk ex hy
          have p3 := RP.later p2 n3.zless
          rw [Res.assoc, ← hbody] at p3
          dsimp only at p3
          have S3 : SR K G3 ι3 (wipeP ρ vs) (L2.wipe σ vs) := (S.mono (n1.same.trans (s2.trans n3.same)) (n1.pre.trans (pr2.trans n3.pre))).wipe vs
          cases hb : bindG g s.2[i] (wipeP ρ vs) h2 with
          | none => rw [hb] at p3; exact p3.elim
          | some ρ' =>
            rw [hb] at p3
            dsimp only at p3
            refine ⟨D :: Z, G3, ι3, h2, wipeP ρ vs, s.2[i], ρ', n3.hr, S3, rx, hb, fun σ2 S2 l2 k2 => ⟨?_, ?_⟩⟩
            · have : L2.wipe σ2 vs = L2.wipe (L2.wipe σ vs) vs := wipe_same l2 fun j hj => k2 j fun q => hj (hsl j q)
              rw [this, wipe_wipe]
            · refine ⟨D :: Z, G3, ι3, h2, ρ', n3.hr, S2, p3.bindN fun b h4 G4 ι4 H4 b' n4 eb p4 => ?_⟩
              cases eb
              have e4 : H4 D = some (.lst vacc) := ((n4.zz D List.mem_cons_self).trans (n3.zz D List.mem_cons_self)).trans eD
              have z4 : ∀ z ∈ Z, H4 z = H1 z := fun z hz => ((n4.zz z (List.mem_cons_of_mem _ hz)).trans (n3.zz z (List.mem_cons_of_mem _ hz))).trans (z2 z hz)
              have s4 := s2.trans (n3.same.trans n4.same)
              have pr4 := pr2.trans (n3.pre.trans n4.pre)
              cases b with
              | false =>
                refine ⟨_, by omega, rfl, G4, ι4, h4, acc, vacc, s4, pr4, n4.hr, z4, e4, ra.mono (n3.same.trans n4.same) (n3.pre.trans n4.pre), ?_⟩
                rw [hbody] at p4
                exact p4
              | true =>
                refine ⟨D :: Z, G4, ι4, h4, ρ', n4.hr, S2.mono n4.same n4.pre, p4.bindN fun y h5 G5 ι5 H5 vy n5 ry p5 => ?_⟩
                have e5 : H5 D = some (.lst vacc) := (n5.zz D List.mem_cons_self).trans e4
                have ra5 := ra.mono (n3.same.trans (n4.same.trans n5.same)) (n3.pre.trans (n4.pre.trans n5.pre))
                rw [hbody] at p5
                have p5' : RP exc K (rV K) Z G5 ι5 H5 ((compL body s.1 (s.2.drop (i + 1)) (acc ++ [y]) h5).bind fun xs h => if xs.length ≤ sizeLine then mkLst r xs h else .stuck) Q (fun cls d H' => W cls d σ H') := p5
                refine ⟨vacc, e5, ?_, ?_⟩
                · rw [← ra5.length]
                  cases ec : compL body s.1 (s.2.drop (i + 1)) (acc ++ [y]) h5 with
                  | stuck => rw [ec] at p5'; exact p5'.elim
                  | exn c v h =>
                    rw [← hbody] at ec
                    exact absurd ec compL_nox
                  | ok ys h6 =>
                    rw [ec] at p5'
                    have l6 := compL_len ec
                    rw [List.length_append, List.length_singleton] at l6
                    have p6 : RP exc K (rV K) Z G5 ι5 H5 (if ys.length ≤ sizeLine then mkLst r ys h6 else .stuck) Q (fun cls d H' => W cls d σ H') := p5'
                    split at p6
                    · omega
                    · exact p6.elim
                · refine ⟨_, by omega, rfl, G5, ι5, h5, acc ++ [y], vacc ++ [vy], s4.trans n5.same, pr4.trans n5.pre, n5.hr.zput, fun z hz => ?_, upd_same, ra5.append (.cons ry .nil), ?_⟩
                  · have hne : z ≠ D := fun e => hzD (e ▸ hz)
                    rw [upd_ne hne]
                    exact (n5.zz z (List.mem_cons_of_mem _ hz)).trans (z4 z hz)
                  · exact RP.later p5' (h1 := h5) ⟨Up.refl _, Pre.refl _, n5.hr.zput.zless, fun z hz => upd_ne fun e => hzD (e ▸ hz)⟩
      · exact p2.elim
    · have e : s.2.drop i = [] := List.drop_eq_nil_of_le (by omega)
      rw [e] at p2
      unfold compL at p2
      split at p2
      · rename_i hchk
        have p3 : RP exc K (rV K) Z G2 ι2 H2 (if acc.length ≤ sizeLine then mkLst r acc h2 else .stuck) Q (fun cls d H' => W cls d σ H') := p2
        refine .inl ⟨hJ.stop (D :: Z) G2 ι2 h2 H2 i s2 pr2 R2 hchk (by omega), ?_⟩
        split at p3
        · exact comp_fin R2 hzD eD ra p3
        · exact p3.elim
      · exact p2.elim
theorem me_comp {elt tg iter : Expr} {ifs : List Expr} {scope : Scope} {own : List (Str × Nat)} {pos : Pos} {r : Bool} {ri : Env' → MH → Res Src} {g : Ag} {rt : Env' → MH → Res Bool} {re : Env' → MH → Res PV} (hc : X.calm = true) (hN : X.N.Nodup)
    (hi : PI X tg iter (tI exc (kx X) W ri)) (ok : BlkOk X.N X.env.scope scope own) (hsl : ∀ i ∈ g.slots, i ∈ own.map (·.2))
    (hg : ∀ (s : Shared) (H : Hp) (C : Addr) (cl : List (Str × Addr)) (fp : List Addr), PG (X.blk s H scope (compEnvC scope cl C X.env) fp) tg (tG (kx X) g))
    (ht : ∀ (s : Shared) (H : Hp) (C : Addr) (cl : List (Str × Addr)) (fp : List Addr), PTs (X.blk s H scope (compEnvC scope cl C X.env) fp) ifs (tT exc (kx X) W0 rt))
    (he : ∀ (s : Shared) (H : Hp) (C : Addr) (cl : List (Str × Addr)) (fp : List Addr), PE (X.blk s H scope (compEnvC scope cl C X.env) fp) elt (tE exc (kx X) W0 re)) (hs : ∀ x, foldedSetIterable iter X.env x = pure x) :
    PE X (.ListComp elt [⟨tg, iter, ifs, 0⟩] scope pos) (tE exc (kx X) W (compR r ri g (own.map (·.2)) rt re)) :=
  (pe_lc hc hN hi ok hg ht he hs).weak fun σ H Q q => tLc_weak hsl q
theorem mt_none : PTs X [] (tT exc (kx X) W fun _ h => .ok true h) := ⟨fun pins s σ H Q I q => by
  obtain ⟨Z, G, ι, h, ρ, R, S, p⟩ := q
  exact pts_nil.run pins s σ H Q I (RP.ok_here p R rfl)⟩
theorem mt_some {c : Expr} {r : Env' → MH → Res PV} (hp : PT X c (tT exc (kx X) W (truR r))) : PTs X [c] (tT exc (kx X) W (truR r)) := pts_one hp
end
end Mx

end

section
set_option Elab.async false
set_option linter.all false
set_option maxRecDepth 100000
set_option maxHeartbeats 4000000
/-! How a def's parameters are bound. -/
namespace Mx
open PySem PySem.Spec PyProof.Rows L2
theorem lookup_app {α : Type} {x : Str} : ∀ {l r : List (Str × α)}, l.lookup x = none → (l ++ r).lookup x = r.lookup x
  | [], r, _ => rfl
  | (k, v) :: l, r, h => by
    rw [List.lookup_cons] at h
    rw [List.cons_append, List.lookup_cons]
    cases hb : x == k with
    | true => rw [hb] at h; cases h
    | false => rw [hb] at h; exact lookup_app h
theorem lookup_none {α : Type} {x : Str} : ∀ {l : List (Str × α)}, x ∉ l.map (·.1) → l.lookup x = none
  | [], _ => rfl
  | (k, v) :: l, h => by
    rw [List.lookup_cons]
    rw [List.map_cons, List.mem_cons, not_or] at h
    have : (x == k) = false := beq_eq_false_iff_ne.mpr h.1
    rw [this]
    exact lookup_none h.2
theorem zip_fst {α : Type} {ps : List Str} {us : List α} {x : Str} (h : x ∈ (ps.zip us).map (·.1)) : x ∈ ps.take us.length := by
  obtain ⟨⟨a, b⟩, h1, rfl⟩ := List.mem_map.mp h
  induction ps generalizing us with
  | nil => simp at h1
  | cons p ps ih =>
    cases us with
    | nil => simp at h1
    | cons u us =>
      rw [List.zip_cons_cons] at h1
      rw [List.length_cons, List.take_succ_cons]
      rcases List.mem_cons.mp h1 with e | h1
      · cases e; exact List.mem_cons_self
      · exact List.mem_cons_of_mem _ (ih h1 (List.mem_map.mpr ⟨_, h1, rfl⟩))
section
variable {α : Type}
theorem looks_congr {kv kv' : List (Str × α)} : ∀ {qs : List Str}, (∀ n ∈ qs, kv.lookup n = kv'.lookup n) → looks kv qs = looks kv' qs
  | [], _ => rfl
  | q :: qs, h => by
    unfold looks
    rw [h q List.mem_cons_self, looks_congr fun n hn => h n (List.mem_cons_of_mem _ hn)]
theorem looks_all {kv : List (Str × α)} : ∀ {qs : List Str} {zs : List α}, looks kv qs = some zs → ∀ n ∈ qs, ∃ v, kv.lookup n = some v
  | q :: qs, zs, h, n, hn => by
    unfold looks at h
    cases e : kv.lookup q with
    | none => rw [e] at h; cases h
    | some a =>
      cases e2 : looks kv qs with
      | none => rw [e, e2] at h; cases h
      | some b =>
        rcases List.mem_cons.mp hn with rfl | hn
        · exact ⟨a, e⟩
        · exact looks_all e2 n hn
theorem looks_map {kv : List (Str × α)} : ∀ {qs : List Str} {zs : List α}, looks kv qs = some zs → (qs.filterMap fun n => (kv.lookup n).map (n, ·)) = qs.zip zs
  | [], zs, h => by simp [looks] at h; subst h; rfl
  | q :: qs, zs, h => by
    unfold looks at h
    cases e : kv.lookup q with
    | none => rw [e] at h; cases h
    | some a =>
      cases e2 : looks kv qs with
      | none => rw [e, e2] at h; cases h
      | some b =>
        rw [e, e2] at h
        cases h
        rw [List.filterMap_cons]
        simp only [e, Option.map_some, List.zip_cons_cons, looks_map e2]
theorem looks_app {kv : List (Str × α)} : ∀ {ps qs : List Str} {ys zs : List α}, looks kv ps = some ys → looks kv qs = some zs → looks kv (ps ++ qs) = some (ys ++ zs)
  | [], qs, ys, zs, h, h' => by simp [looks] at h; subst h; exact h'
  | p :: ps, qs, ys, zs, h, h' => by
    unfold looks at h
    cases e : kv.lookup p with
    | none => rw [e] at h; cases h
    | some a =>
      cases e2 : looks kv ps with
      | none => rw [e, e2] at h; cases h
      | some b =>
        rw [e, e2] at h
        cases h
        rw [List.cons_append]
        unfold looks
        rw [e, looks_app e2 h']
        rfl
theorem looks_zip : ∀ {qs : List Str} {us : List α} {r : List (Str × α)}, qs.Nodup → qs.length = us.length → looks (qs.zip us ++ r) qs = some us
  | [], [], _, _, _ => rfl
  | [], _ :: _, _, _, h => by cases h
  | _ :: _, [], _, _, h => by cases h
  | q :: qs, u :: us, r, nd, hl => by
    rw [List.nodup_cons] at nd
    unfold looks
    rw [List.zip_cons_cons, List.cons_append, List.lookup_cons_self]
    have : looks ((q, u) :: (qs.zip us ++ r)) qs = some us := by
      rw [looks_congr (kv' := qs.zip us ++ r) fun n hn => ?_]
      · exact looks_zip nd.2 (by simpa using hl)
      · rw [List.lookup_cons]
        have : (n == q) = false := beq_eq_false_iff_ne.mpr fun e => nd.1 (e ▸ hn)
        rw [this]
    rw [this]
theorem args_looks {ps ks : List Str} {us ws as : List α} (nd : ps.Nodup) (h : argsOf ps us ks ws = some as) : looks (ps.zip us ++ ks.zip ws) ps = some as ∧ us.length ≤ ps.length ∧ ks.Nodup ∧ ∀ k ∈ ks, k ∈ ps ∧ k ∉ (ps.zip us).map (·.1) := by
  unfold argsOf at h
  split at h
  · rename_i hc
    obtain ⟨h1, h2, h3, h4⟩ := hc
    cases e : looks (ks.zip ws) (ps.drop us.length) with
    | none => rw [e] at h; cases h
    | some zs =>
      rw [e] at h
      cases h
      have nd' := nd
      rw [← List.take_append_drop us.length ps] at nd'
      have apart : ∀ n ∈ ps.drop us.length, n ∉ (ps.zip us).map (·.1) := fun n hn q => (List.nodup_append.mp nd').2.2 n (zip_fst q) n hn rfl
      refine ⟨?_, by omega, h3, fun k hk => ⟨List.mem_of_mem_drop (h4 k hk), apart k (h4 k hk)⟩⟩
      have e1 : looks (ps.zip us ++ ks.zip ws) (ps.take us.length) = some us := by
        have ez : ps.zip us = (ps.take us.length).zip us := by
          conv => lhs; rw [← List.take_append_drop us.length ps]
          have hl : (ps.take us.length).length = us.length := by rw [List.length_take]; omega
          have := List.zip_append (l₁ := ps.take us.length) (l₂ := us) (r₁ := ps.drop us.length) (r₂ := ([] : List α)) hl
          simpa using this
        rw [ez]
        exact looks_zip ((List.take_sublist _ _).nodup nd) (by rw [List.length_take]; omega)
      have e2 : looks (ps.zip us ++ ks.zip ws) (ps.drop us.length) = some zs := by
        rw [looks_congr (kv' := ks.zip ws) fun n hn => lookup_app (lookup_none (apart n hn))]
        exact e
      have := looks_app e1 e2
      rwa [List.take_append_drop] at this
  · cases h
end
theorem kw_loop {ps : List Str} (f : Str × Value → List (Str × Value) × List (Str × Value) → Sem (ForInStep (List (Str × Value) × List (Str × Value))))
    (hf : ∀ k v s e, k ∈ ps → s.lookup k = none → f (k, v) (s, e) = pure (.yield (s ++ [(k, v)], e))) :
    ∀ (l s e : List (Str × Value)), (∀ p ∈ l, p.1 ∈ ps ∧ p.1 ∉ s.map (·.1)) → (l.map (·.1)).Nodup → forIn l (s, e) f = pure (s ++ l, e)
  | [], s, e, _, _ => by rw [List.forIn_nil, List.append_nil]
  | (k, v) :: l, s, e, h, nd => by
    rw [List.map_cons, List.nodup_cons] at nd
    rw [List.forIn_cons, hf k v s e (h _ List.mem_cons_self).1 (lookup_none (h _ List.mem_cons_self).2)]
    have ih := kw_loop f hf l (s ++ [(k, v)]) e (fun p hp => ⟨(h p (List.mem_cons_of_mem _ hp)).1, fun q => ?_⟩) nd.2
    · rw [List.append_assoc] at ih
      exact ih
    · rw [List.map_append, List.mem_append] at q
      rcases q with q | q
      · exact (h p (List.mem_cons_of_mem _ hp)).2 q
      · have : p.1 = k := by simpa using q
        exact nd.1 (List.mem_map.mpr ⟨p, hp, this⟩)
theorem zip_keys {ks : List Str} {ws : List Value} (nd : ks.Nodup) : ((ks.zip ws).map (·.1)).Nodup := by
  induction ks generalizing ws with
  | nil => simp
  | cons k ks ih =>
    cases ws with
    | nil => simp
    | cons w ws =>
      rw [List.nodup_cons] at nd
      rw [List.zip_cons_cons, List.map_cons, List.nodup_cons]
      exact ⟨fun q => nd.1 (List.mem_of_mem_take (zip_fst q)), ih nd.2⟩
theorem binds_all {fd : FuncData} {ps : List Str} (h1 : fd.params.posonlyargs = []) (h2 : fd.params.kwonlyargs = []) (h3 : fd.params.vararg = none) (h4 : fd.params.kwarg = none) (hd : fd.defaults = .none) (hn : fd.params.args.map (·.arg) = ps) (nd : ps.Nodup)
    {us ws as : List Value} {ks : List Str} (h : argsOf ps us ks ws = some as) : bindArgs fd ⟨us, ks.zip ws⟩ = pure (ps.zip as) := by
  obtain ⟨hl, hle, kn, kin⟩ := args_looks nd h
  unfold bindArgs
  simp only [h1, h2, h3, h4, hd, hn, List.map_nil, List.nil_append]
  rw [kw_loop (ps := ps)]
  · simp only [pure_bind]
    have e0 : (seqItems? Value.none : Sem (Option (Array Value))) = pure none := rfl
    have e1 : decide (us.length > ps.length) = false := decide_eq_false (by omega)
    have e2 : (List.filter (fun n => (List.lookup n (ps.zip us ++ ks.zip ws)).isNone) ps) = [] := by
      rw [List.filter_eq_nil_iff]
      intro n hn
      obtain ⟨v, e⟩ := looks_all hl n hn
      rw [e]; simp
    simp only [e0, pure_bind, e1, Bool.false_and, Bool.false_eq_true, if_false, Option.getD_none, List.length_nil, Nat.sub_zero, List.take_length, e2, List.isEmpty_nil, Bool.not_true, List.drop_length, List.drop_nil, List.zip_nil_right, List.zip_nil_left, List.forIn_nil, List.append_nil, List.take_nil, List.drop_zero]
    rw [looks_map hl]
  · intro k v s e hk hs
    have hk' : ps.contains k = true := List.contains_iff_mem.mpr hk
    simp only [hk', hs, Bool.true_or, if_true, Option.isSome_none, Bool.false_eq_true, if_false]
  · intro p hp
    exact kin p.1 (List.of_mem_zip hp).1
  · exact zip_keys kn
end Mx

end

section
set_option Elab.async false
set_option linter.all false
set_option maxRecDepth 100000
set_option maxHeartbeats 4000000
/-! Calls of the program's own defs. -/
namespace Mx
open PySem PySem.Spec PyProof.Rows L2
theorem takesN {X : Cx} : Takes X W0 := fun _ _ x => by
  obtain ⟨a, B, sI, pins, σ, H, cls, d, e, I, nb, up, sky, na, os, ag, w⟩ := x
  exact w.elim
section
variable {α β : Type} {R : α → β → Prop}
theorem lookup_rel : ∀ {ks : List Str} {xs : List α} {us : List β}, Paired R xs us → ∀ {k : Str} {a : α}, (ks.zip xs).lookup k = some a → ∃ b, (ks.zip us).lookup k = some b ∧ R a b
  | [], _, _, _, k, a, e => by simp at e
  | q :: ks, _, _, .nil, k, a, e => by simp at e
  | q :: ks, _, _, .cons (a := x) (b := u) r t, k, a, e => by
    rw [List.zip_cons_cons, List.lookup_cons] at e
    rw [List.zip_cons_cons, List.lookup_cons]
    cases hb : k == q with
    | true => rw [hb] at e; cases e; exact ⟨u, rfl, r⟩
    | false => rw [hb] at e; exact lookup_rel t e
theorem looks_rel {kv : List (Str × α)} {kw : List (Str × β)} (h : ∀ k a, kv.lookup k = some a → ∃ b, kw.lookup k = some b ∧ R a b) : ∀ {ps : List Str} {as : List α}, looks kv ps = some as → ∃ bs, looks kw ps = some bs ∧ Paired R as bs
  | [], as, e => by simp [looks] at e; subst e; exact ⟨[], rfl, .nil⟩
  | p :: ps, as, e => by
    unfold looks at e
    cases e1 : kv.lookup p with
    | none => rw [e1] at e; cases e
    | some a =>
      cases e2 : looks kv ps with
      | none => rw [e1, e2] at e; cases e
      | some bs =>
        rw [e1, e2] at e
        cases e
        obtain ⟨b, q1, q2⟩ := h p a e1
        obtain ⟨cs, q3, q4⟩ := looks_rel h e2
        refine ⟨b :: cs, ?_, .cons q2 q4⟩
        unfold looks
        rw [q1, q3]
theorem Paired.app {as cs : List α} {bs ds : List β} (h : Paired R as bs) (h' : Paired R cs ds) : Paired R (as ++ cs) (bs ++ ds) := by
  induction h with
  | nil => exact h'
  | cons r _ ih => exact .cons r ih
theorem args_rel {ps ks : List Str} {xs ys as : List α} {us ws : List β} (h1 : Paired R xs us) (h2 : Paired R ys ws) (e : argsOf ps xs ks ys = some as) : ∃ bs, argsOf ps us ks ws = some bs ∧ Paired R as bs := by
  unfold argsOf at e
  split at e
  · rename_i hc
    cases e1 : looks (ks.zip ys) (ps.drop xs.length) with
    | none => rw [e1] at e; cases e
    | some zs =>
      rw [e1] at e
      cases e
      rw [h1.length] at e1
      obtain ⟨bs, q1, q2⟩ := looks_rel (fun k a => lookup_rel h2) e1
      refine ⟨us ++ bs, ?_, Paired.app h1 q2⟩
      unfold argsOf
      rw [if_pos (by rw [← h1.length, ← h2.length]; exact hc), q1]
      rfl
  · cases e
end
theorem rvs_paired {K : Wr} {G : Hp} {ι : List Addr} : ∀ {xs : List PV} {vs : List V}, RVs K G ι xs vs → ∀ {us : List Value}, Vals vs us → Paired (fun x u => ∃ v, RV K G ι x v ∧ RelV v u) xs us
  | _, _, .nil, _, .nil => .nil
  | _, _, .cons r t, _, .cons r' t' => .cons ⟨_, r, r'⟩ (rvs_paired t t')
theorem paired_rvs {K : Wr} {G : Hp} {ι : List Addr} : ∀ {xs : List PV} {us : List Value}, Paired (fun x u => ∃ v, RV K G ι x v ∧ RelV v u) xs us → ∃ vs, RVs K G ι xs vs ∧ Vals vs us
  | _, _, .nil => ⟨[], .nil, .nil⟩
  | _, _, .cons ⟨v, r, r'⟩ t => by
    obtain ⟨vs, q1, q2⟩ := paired_rvs t
    exact ⟨v :: vs, .cons r q1, .cons r' q2⟩

/-! ### no star -/
def nostar : List Expr → Bool
  | [] => true
  | .Starred _ _ :: _ => false
  | _ :: es => nostar es
theorem nostar_at {e : Expr} {es : List Expr} (h : nostar (e :: es) = true) (env : Env) : starEach (e :: es) env = (false, eval e env) :: starEach es env ∧ nostar es = true := by
  cases e <;> first | exact ⟨rfl, h⟩ | cases h
theorem nostar_any {pos : Pos} {env : Env} : ∀ {es : List Expr}, nostar es = true → (backTo pos (starEach es env)).any (·.1) = false
  | [], _ => rfl
  | e :: es, h => by
    obtain ⟨h1, h2⟩ := nostar_at h env
    rw [h1]
    show (false || (backTo pos (starEach es env)).any (·.1)) = false
    rw [nostar_any h2]; rfl
theorem kw_names {pos : Pos} {env : Env} : ∀ {ks : List Str} {kws : List Keyword}, kws.map (·.arg) = ks.map some → (backToKw pos (keywordEach kws env)).all (·.1.isSome) = true ∧ (backToKw pos (keywordEach kws env)).any (·.1.isNone) = false ∧ (backToKw pos (keywordEach kws env)).filterMap (·.1) = ks
  | [], [], _ => ⟨rfl, rfl, rfl⟩
  | [], _ :: _, h => by cases h
  | _ :: _, [], h => by cases h
  | k :: ks, ⟨n, e, kp⟩ :: kws, h => by
    rw [List.map_cons, List.map_cons, List.cons.injEq] at h
    obtain ⟨h1, h2⟩ := h
    have h1 : n = some k := h1
    subst h1
    obtain ⟨q1, q2, q3⟩ := kw_names (pos := pos) (env := env) h2
    refine ⟨?_, ?_, ?_⟩
    · show (true && (backToKw pos (keywordEach kws env)).all (·.1.isSome)) = true
      rw [q1]; rfl
    · show (false || (backToKw pos (keywordEach kws env)).any (·.1.isNone)) = false
      rw [q2]; rfl
    · show k :: (backToKw pos (keywordEach kws env)).filterMap (·.1) = k :: ks
      rw [q3]

/-- what is written of a def -/
structure DefK (K : Wr) (f : Str) (a : Addr) (fd : FuncData) (ps : List Str) : Prop where
  mg : K.mg f = some (.ref a)
  keep : PySem.W.keepIn K.K (.ref a) = true
  po : fd.params.posonlyargs = []
  ko : fd.params.kwonlyargs = []
  va : fd.params.vararg = none
  ka : fd.params.kwarg = none
  df : fd.defaults = .none
  nm : fd.params.args.map (·.arg) = ps
  nd : ps.Nodup
theorem _root_.L2.PK.weak {X : Cx} {es : List Keyword} {t t' : TA} (h : PK X es t) (k : ∀ σ H Q, t' σ H Q → t σ H Q) : PK X es t' := ⟨fun pos pins s σ H Q I q => h.run pos pins s σ H Q I (k σ H Q q)⟩
section
variable {X : Cx} {exc : List Str} {W : WX}
theorem run_fnM {k : Nat} {a : Addr} {fd : FuncData} {ps ks : List Str} {sp : Sp} {E : XK} {pins : List (Addr × Obj)} {σ : L2.St} {H : Hp} {s : Shared} {Q : VK} {us ws as : List Value} {vs : List V} (F : FnOk X.prog X.w X.K X.mg X.base (L2.CX X.prog X.w) k a fd ps sp) (hr : Room k X.A)
    (hb : BindsTo s fd ⟨us, ks.zip ws⟩ (ps.zip as)) (hx : PassesAt (L2.CX X.prog X.w) X σ E) (I : Inv X pins σ H s) (r : Vals vs as) (h : sp vs H Q E) :
    wpAny (model X.prog X.w) X.A (PySem.call (.ref a) us (ks.zip ws)) (EP X pins σ Q) X.xe s := by
  refine wpAny_call (codeAny_mono (F.run X.A X.stack s H ⟨us, ks.zip ws⟩ as vs Q E hr I.env0 hb r h) fun r s' hq => ?_)
  cases r with
  | error e => exact hx pins H s e s' I hq
  | ok fl =>
    cases fl with
    | ret u => exact I.after hq
    | next => exact False.elim hq
    | brk => exact False.elim hq
    | cont => exact False.elim hq
theorem me_call {f : Str} {a : Addr} {fd : FuncData} {ps ks : List Str} {k : Nat} {es : List Expr} {kws : List Keyword} {p pos : Pos} {rs rk : Env' → MH → Res (List PV)} {b : List PV → MH → Res PV} {cl : List PV → List PV → MH → Res PV}
    (D : DefK (kx X) f a fd ps) (F : FnOk X.prog X.w X.K X.mg X.base (L2.CX X.prog X.w) k a fd ps (spF exc (kx X) ps.length b)) (hr : Room k X.A) (tk : Takes X W) (hg : Gl X f) (hdb : (f == ("__debug__" : Str)) = false)
    (hns : nostar es = true) (hkw : kws.map (·.arg) = ks.map some) (ha : PA X es (tA exc (kx X) W rs)) (hk : PK X kws (tA exc (kx X) W rk))
    (h0 : es = [] → ∀ ρ h, rs ρ h = .ok [] h) (hcl : ∀ xs ys h, cl xs ys h = match argsOf ps xs ks ys with | none => .stuck | some as => b as h) :
    PE X (.Call (.Name f p) es kws pos) (tE exc (kx X) W fun ρ h => (rs ρ h).bind fun xs h => (rk ρ h).bind fun ys h => cl xs ys h) := by
  refine ⟨fun pins s σ H Q I q => ?_⟩
  obtain ⟨Z, G, ι, h, ρ, R, S, p0⟩ := q
  obtain ⟨hall, hno, hks⟩ := kw_names (pos := pos) (env := X.env) hkw
  refine wpAny_Call_Name_kw (ld_glob I hg D.mg ?_ hdb)
  -- what stands behind the arguments
  have fin : ∀ {s2 : Shared} {H2 : Hp} {Z : List Addr} {G2 : Hp} {ι2 : List Addr} {h2 : MH} {xs ys : List PV} {vs zs : List V} {us ws : List Value}, Inv X pins σ H2 s2 → HR (kx X) Z G2 ι2 h2 H2 → RVs (kx X) G2 ι2 xs vs → RVs (kx X) G2 ι2 ys zs → Vals vs us → Vals zs ws →
      RP exc (kx X) (rV (kx X)) Z G2 ι2 H2 (cl xs ys h2) Q (fun cls d H' => W cls d σ H') → PySem.W.Frag.In X.K s2.heap ∧ wpAny (model X.prog X.w) X.A (PySem.call (.ref a) us (ks.zip ws)) (EP X pins σ Q) X.xe s2 := by
    intro s2 H2 Z G2 ι2 h2 xs ys vs zs us ws I2 R2 rx ry vx vy p2
    refine ⟨I2.kIn, ?_⟩
    rw [hcl] at p2
    cases e : argsOf ps xs ks ys with
    | none => rw [e] at p2; exact p2.elim
    | some as =>
      rw [e] at p2
      obtain ⟨bs, e2, pr⟩ := args_rel (rvs_paired rx vx) (rvs_paired ry vy) e
      obtain ⟨va, q1, q2⟩ := paired_rvs pr
      have hlen : as.length = ps.length := by
        obtain ⟨q, _⟩ := args_looks D.nd e
        have : ∀ {kv : List (Str × PV)} {ps : List Str} {as : List PV}, looks kv ps = some as → as.length = ps.length := by
          intro kv ps
          induction ps with
          | nil => intro as h; simp [looks] at h; subst h; rfl
          | cons p ps ih =>
            intro as h
            unfold looks at h
            split at h
            · rename_i z _ _ e2
              cases h
              rw [List.length_cons, List.length_cons, ih e2]
            · cases h
        exact this q
      exact run_fnM F hr (.of_eq (binds_all D.po D.ko D.va D.ka D.df D.nm D.nd e2)) (passAt tk σ) I2 q2 ⟨Z, G2, ι2, h2, as, hlen, R2, q1, p2⟩
  -- the keywords
  have kws_run : ∀ {s1 : Shared} {H1 : Hp} {G1 : Hp} {ι1 : List Addr} {h1 : MH} {xs : List PV} {vs : List V} {us : List Value}, Inv X pins σ H1 s1 → Nx (kx X) Z G ι H G1 ι1 h1 H1 → RVs (kx X) G1 ι1 xs vs → Vals vs us →
      RP exc (kx X) (rV (kx X)) Z G1 ι1 H1 ((rk ρ h1).bind fun ys h => cl xs ys h) Q (fun cls d H' => W cls d σ H') →
      wpAny (model X.prog X.w) X.A (evalAll ((backToKw pos (keywordEach kws X.env)).map (·.2))) (fun ws s2 => PySem.W.Frag.In X.K s2.heap ∧ wpAny (model X.prog X.w) X.A (PySem.call (.ref a) us (((backToKw pos (keywordEach kws X.env)).filterMap (·.1)).zip ws)) (EP X pins σ Q) X.xe s2) X.xe s1 := by
    intro s1 H1 G1 ι1 h1 xs vs us I1 n1 rx vx p1
    have hrun := hk.run pos pins s1 σ H1 (fun zs H2 => ∃ G2 ι2 h2 ys, Nx (kx X) Z G1 ι1 H1 G2 ι2 h2 H2 ∧ RVs (kx X) G2 ι2 ys zs ∧ RP exc (kx X) (rV (kx X)) Z G2 ι2 H2 (cl xs ys h2) Q (fun cls d H' => W cls d σ H')) I1
      ⟨Z, G1, ι1, h1, ρ, n1.hr, S.mono n1.same n1.pre, p1.bind fun ys h2 G2 ι2 H2 zs n2 ry p2 => ⟨G2, ι2, h2, ys, n2, ry, p2⟩⟩
    refine thn hrun fun ws s2 ⟨zs, H2, I2, rz, G2, ι2, h2, ys, n2, ry, p2⟩ => ?_
    rw [hks]
    exact fin I2 n2.hr (rx.mono n2.same n2.pre) ry vx rz p2
  have args_run := fun (pos : Pos) => ha.run pos pins s σ H (fun vs H1 => ∃ G1 ι1 h1 xs, Nx (kx X) Z G ι H G1 ι1 h1 H1 ∧ RVs (kx X) G1 ι1 xs vs ∧ RP exc (kx X) (rV (kx X)) Z G1 ι1 H1 ((rk ρ h1).bind fun ys h => cl xs ys h) Q (fun cls d H' => W cls d σ H')) I
    ⟨Z, G, ι, h, ρ, R, S, p0.bind fun xs h1 G1 ι1 H1 vs n1 rx p1 => ⟨G1, ι1, h1, xs, n1, rx, p1⟩⟩
  have hplain : ((backTo pos (starEach es X.env)).any (·.1) || (backToKw pos (keywordEach kws X.env)).any (·.1.isNone)) = false := by rw [nostar_any hns, hno]; rfl
  refine PySem.W.callWith_of hplain (PySem.W.keeps_K D.keep) ?_
  cases es with
  | nil =>
    refine evalArgs_kw2_nil hall ?_
    dsimp only at p0
    rw [h0 rfl] at p0
    exact kws_run (us := []) I (Nx.refl R) .nil .nil p0
  | cons e es =>
    obtain ⟨he, _⟩ := nostar_at hns X.env
    refine evalArgs_kw2 hall ?_ he
    exact thn (args_run pos) fun us s1 ⟨vs, H1, I1, r1, G1, ι1, h1, xs, n1, rx, p1⟩ => kws_run I1 n1 rx r1 p1
end
end Mx

end

section
set_option Elab.async false
set_option linter.all false
set_option maxRecDepth 100000
set_option maxHeartbeats 4000000
/-! Starred displays, xs[::-1], dict displays, dict(zip(..)), defs as values. -/
namespace Mx
open PySem PySem.Spec PyProof.Rows L2
section
variable {X : Cx} {exc : List Str} {W : WX} {e : Expr} {es : List Expr} {p pos : Pos} {r : Env' → MH → Res PV} {rs : Env' → MH → Res (List PV)}
theorem me_star (ha : PE X e (tE exc (kx X) W r)) (hr : PA X es (tA exc (kx X) W rs)) :
    PA X (.Starred e p :: es) (tA exc (kx X) W fun ρ h => (r ρ h).bind fun x h => match items h x with
      | some ys => (rs ρ h).bind fun xs h => .ok (ys ++ xs) h
      | none => .stuck) := by
  refine (StX.pa_star ha hr).weak fun σ H Q q => ?_
  obtain ⟨Z, G, ι, h, ρ, R, S, p⟩ := q
  refine ⟨Z, G, ι, h, ρ, R, S, p.bind fun x h1 G1 ι1 H1 vx n1 rx p1 => ?_⟩
  split at p1
  · rename_i ys e1
    obtain ⟨a, vs, rfl, hq, rys⟩ := (items_of n1.hr rx e1).sq
    refine ⟨a, vs, rfl, hq.symm, Z, G1, ι1, h1, ρ, n1.hr, S.mono n1.same n1.pre, p1.bind fun xs h2 G2 ι2 H2 ws n2 rxs p2 => ?_⟩
    exact RP.ok_here p2 n2.hr ((rys.mono n2.same n2.pre).append rxs)
  · exact p1.elim
theorem me_tupS {k} (ha : PA X es (tA exc (kx X) W rs)) : PE X (.Tuple es k pos) (tE exc (kx X) W fun ρ h => (rs ρ h).bind fun xs h => if xs.length ≤ sizeLine then .ok (.tup xs) h else .stuck) := by
  refine (pe_tupN ha).weak fun σ H Q q => ?_
  obtain ⟨Z, G, ι, h, ρ, R, S, p⟩ := q
  refine ⟨Z, G, ι, h, ρ, R, S, p.bind fun xs h1 G1 ι1 H1 vs n1 rv p1 => ?_⟩
  split at p1
  · rename_i hz
    exact ⟨by rw [← rv.length]; exact hz, mk_tup n1.hr rv p1⟩
  · exact p1.elim
theorem me_lstS {b : Bool} (ha : PA X es (tA exc (kx X) W rs)) : PE X (.List es pos) (tE exc (kx X) W fun ρ h => (rs ρ h).bind fun xs h => if xs.length ≤ sizeLine then mkLst b xs h else .stuck) := by
  refine (pe_lst ha).weak fun σ H Q q => ?_
  obtain ⟨Z, G, ι, h, ρ, R, S, p⟩ := q
  refine ⟨Z, G, ι, h, ρ, R, S, p.bind fun xs h1 G1 ι1 H1 vs n1 rv p1 => ?_⟩
  split at p1
  · rename_i hz
    exact ⟨by rw [← rv.length]; exact hz, mk_lst n1.hr rv p1⟩
  · exact p1.elim
theorem me_rev {b : Bool} {k : Nat} {p1 p2 p3 : Pos} (ha : PE X e (tE exc (kx X) W r)) : PE X (.Subscript e (.Slice none none (some (.UnaryOp .USub (.Constant (.int 1) k p1) p2)) p3) pos) (tE exc (kx X) W fun ρ h => (r ρ h).bind fun x h => revop b x h) := by
  refine (pe_revL ha).weak fun σ H Q q => ?_
  obtain ⟨Z, G, ι, h, ρ, R, S, p⟩ := q
  refine ⟨Z, G, ι, h, ρ, R, S, p.bind fun x h1 G1 ι1 H1 vx n1 rx p1 => ?_⟩
  unfold revop at p1
  split at p1
  · rename_i xs e1
    obtain ⟨a, vs, rfl, hd, rvs⟩ := litems_of n1.hr rx e1
    exact ⟨a, vs, rfl, .inl hd, mk_lst n1.hr rvs.reverse p1⟩
  · exact p1.elim
theorem me_dz {e2 : Expr} {p1 p2 p3 : Pos} {g z : Str} {r2 : Env' → MH → Res PV} (hgn : g = ("dict" : Str)) (hzn : z = ("zip" : Str)) (hc : X.calm = true) (hgD : Gl X g) (hmD : X.mg g = none) (hgZ : Gl X z) (hmZ : X.mg z = none) (ha : PE X e (tE exc (kx X) W r)) (hb : PE X e2 (tE exc (kx X) W r2))
    (hs : starEach [e, e2] X.env = [(false, eval e X.env), (false, eval e2 X.env)]) (hs2 : starEach [e2] X.env = [(false, eval e2 X.env)]) :
    PE X (.Call (.Name g p1) [.Call (.Name z p2) [e, e2] [] p3] [] pos) (tE exc (kx X) W fun ρ h => (r ρ h).bind fun x h => (r2 ρ h).bind fun y h => dzipop x y h) := by
  refine (pe_dz hgn hzn hc hgD hmD hgZ hmZ (pa_cons ha (pa_cons hb pa_nil (by rw [hs2]; rfl)) (by rw [hs, hs2])) (by rw [hs, hs2]) (by rw [hs2]; rfl)).weak fun σ H Q q => ?_
  obtain ⟨Z, G, ι, h, ρ, R, S, p⟩ := q
  refine ⟨Z, G, ι, h, ρ, R, S, p.bind fun x h1 G1 ι1 H1 vx n1 rx p1 => ?_⟩
  refine ⟨Z, G1, ι1, h1, ρ, n1.hr, S.mono n1.same n1.pre, p1.bind fun y h2 G2 ι2 H2 vy n2 ry p2 => ?_⟩
  exact dz_ok n2.hr (rx.mono n2.same n2.pre) ry p2
theorem me_fnv {f : Str} {a : Addr} (hm : X.mg f = some (.ref a)) (hg : Gl X f) (hd : (f == ("__debug__" : Str)) = false) : PE X (.Name f pos) (tE exc (kx X) W fun _ h => .ok (.fn f) h) :=
  me_con (y := .ref a) hg hm rfl (fun _ _ => .fn hm) hd
/-! ### dict displays -/
/-- pairs' reading -/
def tPs (exc : List Str) (K : Wr) (W : WX) (r : Env' → MH → Res (List (Key × PV))) (σ : L2.St) (H : Hp) (Q : List (V × V) → Hp → Prop) : Prop :=
  ∃ Z G ι h ρ, HR K Z G ι h H ∧ SR K G ι ρ σ ∧ RP exc K (fun G ι (ps : List (Key × PV)) (qs : List (V × V)) => ∃ kvs : List (Key × V), qs = kvs.map (fun kv => (kV kv.1, kv.2)) ∧ RK K G ι ps kvs) Z G ι H (r ρ h) Q (fun cls d H' => W cls d σ H')
structure MPs (X : Cx) (exc : List Str) (W : WX) (pos : Pos) (keys : List (Option Expr)) (values : List Expr) (r : Env' → MH → Res (List (Key × PV))) : Prop where
  run : ∃ trs, PPs X pos keys values trs ∧ ∀ σ H Q, tPs exc (kx X) W r σ H Q → tPairs trs σ H Q
theorem mps_nil : MPs X exc W pos [] [] (fun _ h => .ok [] h) := ⟨[], pps_nil, fun σ H Q q => by
  obtain ⟨Z, G, ι, h, ρ, R, S, p⟩ := q
  exact RP.ok_here p R ⟨[], rfl, .nil⟩⟩
theorem mps_cons {k v : Expr} {ks : List (Option Expr)} {vs : List Expr} {rk rv : Env' → MH → Res PV} {rr : Env' → MH → Res (List (Key × PV))} (hk : PE X k (tE exc (kx X) W rk)) (hv : PE X v (tE exc (kx X) W rv)) (hr : MPs X exc W pos ks vs rr) :
    MPs X exc W pos (some k :: ks) (v :: vs) (fun ρ h => (rk ρ h).bind fun x h => (rv ρ h).bind fun y h => match keyOf x with
      | some j => (rr ρ h).bind fun qs h => .ok ((j, y) :: qs) h
      | none => .stuck) := by
  obtain ⟨trs, P, k'⟩ := hr
  refine ⟨_, pps_cons hk hv P, fun σ H Q q => ?_⟩
  obtain ⟨Z, G, ι, h, ρ, R, S, p⟩ := q
  refine ⟨Z, G, ι, h, ρ, R, S, p.bind fun x h1 G1 ι1 H1 vx n1 rx p1 => ?_⟩
  refine ⟨Z, G1, ι1, h1, ρ, n1.hr, S.mono n1.same n1.pre, p1.bind fun y h2 G2 ι2 H2 vy n2 ry p2 => ?_⟩
  split at p2
  · rename_i j ej
    refine k' σ H2 _ ⟨Z, G2, ι2, h2, ρ, n2.hr, S.mono (n1.same.trans n2.same) (n1.pre.trans n2.pre), p2.bind fun ps h3 G3 ι3 H3 qs n3 rq p3 => ?_⟩
    obtain ⟨kvs, rfl, rk2⟩ := rq
    refine RP.ok_here p3 n3.hr ⟨(j, vy) :: kvs, ?_, .cons ⟨rfl, ry.mono n3.same n3.pre⟩ rk2⟩
    rw [List.map_cons, keyV rx ej]
  · exact p2.elim
theorem me_dnew {keys : List (Option Expr)} {values : List Expr} {rp : Env' → MH → Res (List (Key × PV))} (hP : MPs X exc W pos keys values rp) (hall : keys.all (·.isSome) = true) (hl : keys.length = values.length) (h15 : keys.length ≤ 15) (hlen : ∀ ρ h ps h', rp ρ h = .ok ps h' → ps.length ≤ 15)
    (h0 : keys = [] → values = [] ∧ ∀ ρ h, rp ρ h = .ok [] h) : PE X (.Dict keys values pos) (tE exc (kx X) W fun ρ h => (rp ρ h).bind fun ps h => mkDic (kmerge [] ps) h) := by
  by_cases hk : keys = []
  · obtain ⟨hv, hz⟩ := h0 hk
    subst hk hv
    refine pe_dnewK.weak fun σ H Q q => ?_
    obtain ⟨Z, G, ι, h, ρ, R, S, p⟩ := q
    dsimp only at p
    rw [hz] at p
    exact mk_dic R .nil p
  · obtain ⟨trs, P, k'⟩ := hP
    refine (pe_disp P hall hl hk h15).weak fun σ H Q q => ?_
    obtain ⟨Z, G, ι, h, ρ, R, S, p⟩ := q
    intro D hD
    have hzD : D ∉ Z := R.freshZ hD
    have z0 : ∀ z ∈ Z, upd H D (.dK []) z = H z := fun z hz => upd_ne fun e => hzD (e ▸ hz)
    have R1 := R.make (o := .dK []) hD
    refine k' σ _ _ ⟨D :: Z, G, ι, h, ρ, R1, S, ?_⟩
    have len := hlen ρ h
    dsimp only at p
    generalize rp ρ h = rr at p len
    have pl := p.later (h1 := h) ⟨Up.refl _, Pre.refl _, R1.zless, z0⟩
    cases rr with
    | stuck => exact p
    | exn c v h' =>
      exact ⟨pl.1, fun G' ι' H' C dd x n a b q => pl.2 G' ι' H' C dd x n.zless a b q⟩
    | ok ps h1 =>
      intro G1 ι1 H1 qs n1 rq
      obtain ⟨kvs, rfl, rk2⟩ := rq
      have eD : H1 D = some (.dK []) := (n1.zz D List.mem_cons_self).trans upd_same
      refine ⟨eD, kvs, rfl, by rw [← rk2.length]; exact len ps h1 rfl, ?_⟩
      have p1 := pl.later n1.zless
      have p2 : RP exc (kx X) (rV (kx X)) Z G1 ι1 H1 (.ok (.ref h1.length) (h1 ++ [.dic (kmerge [] ps)])) Q (fun cls d H' => W cls d σ H') := p1
      have R2 := (n1.hr.zput (o := .dK (mergeK [] kvs))).doneR (m := .dic (kmerge [] ps)) (by rw [upd_same]; exact ((rk2.merge .nil).mono (Up.refl _) (Pre.append _ _)).toO) hzD
      refine p2 G1 (ι1 ++ [D]) _ (.ref D) ⟨Up.refl _, Pre.append _ _, R2, fun z hz => upd_ne fun e => hzD (e ▸ hz)⟩ (.ref ?_)
      rw [← n1.hr.len]; simp
/-! ### a call of a def that a name holds -/
theorem me_calv {x : Str} {i : Nat} {hp : Pos} {cl : Calls} {Pf : Str → Option Fn} (hN : X.N[i]? = some x) (hv : Vis X.env.scope x) (hd : (x == ("__debug__" : Str)) = false) (hcd : (x == ("__classdict__" : Str)) = false) (tk : Takes X W)
    (fns : ∀ f, (Pf f).isSome = true → ∃ a fd ps k b, DefK (kx X) f a fd ps ∧ FnOk X.prog X.w X.K X.mg X.base (L2.CX X.prog X.w) k a fd ps (spF exc (kx X) ps.length b) ∧ Room k X.A ∧ ∀ xs ks ys h, cl f xs ks ys h = match argsOf ps xs ks ys with | none => .stuck | some as => b as h)
    (hns : nostar es = true) (ha : PA X es (tA exc (kx X) W rs)) (h0 : es = [] → ∀ ρ h, rs ρ h = .ok [] h) :
    PE X (.Call (.Name x hp) es [] pos) (tE exc (kx X) W fun ρ h => match ρ[i]? with
      | some (some (.fn f)) => if (Pf f).isSome = true then (rs ρ h).bind fun xs h => cl f xs [] [] h else .stuck
      | _ => .stuck) := by
  refine ⟨fun pins s σ H Q I q => ?_⟩
  obtain ⟨Z, G, ι, h, ρ, R, S, p0⟩ := q
  dsimp only at p0
  split at p0
  · rename_i f ef
    obtain ⟨v, e2, rv⟩ := S.2 i _ ef
    split at p0
    · rename_i hsome
      refine wpAny_Call_Name_kw (thn ((pe_var (X := X) (pos := hp) hN hv hd hcd).run pins s σ H (fun y H1 => y = v ∧ H1 = H) I ⟨v, e2, rfl, rfl⟩) fun u s1 ⟨y, H1, I1, r1, ey, eH⟩ => ?_)
      subst ey eH
      obtain ⟨a, fd, ps, k, b, D, F, hr, hcl⟩ := fns f hsome
      cases rv with
      | fn hm =>
        have ea := hm.symm.trans D.mg
        cases ea
        obtain rfl : u = Value.ref a := r1
        have fin : ∀ {s2 : Shared} {H2 : Hp} {G2 : Hp} {ι2 : List Addr} {h2 : MH} {xs : List PV} {vs : List V} {us : List Value}, Inv X pins σ H2 s2 → HR (kx X) Z G2 ι2 h2 H2 → RVs (kx X) G2 ι2 xs vs → Vals vs us →
            RP exc (kx X) (rV (kx X)) Z G2 ι2 H2 (cl f xs [] [] h2) Q (fun cls d H' => W cls d σ H') → PySem.W.Frag.In X.K s2.heap ∧ wpAny (model X.prog X.w) X.A (PySem.call (.ref a) us (([] : List Str).zip ([] : List Value))) (EP X pins σ Q) X.xe s2 := by
          intro s2 H2 G2 ι2 h2 xs vs us I2 R2 rx vx p2
          refine ⟨I2.kIn, ?_⟩
          rw [hcl] at p2
          cases e : argsOf ps xs [] ([] : List PV) with
          | none => rw [e] at p2; exact p2.elim
          | some as =>
            rw [e] at p2
            obtain ⟨bs, e2, pr⟩ := args_rel (rvs_paired rx vx) (.nil : Paired (fun x u => ∃ v, RV (kx X) G2 ι2 x v ∧ RelV v u) [] []) e
            obtain ⟨va, q1, q2⟩ := paired_rvs pr
            have hlen : as.length = ps.length := by
              obtain ⟨q, _⟩ := args_looks D.nd e
              have : ∀ {kv : List (Str × PV)} {ps : List Str} {as : List PV}, looks kv ps = some as → as.length = ps.length := by
                intro kv ps
                induction ps with
                | nil => intro as h; simp [looks] at h; subst h; rfl
                | cons p ps ih =>
                  intro as h
                  unfold looks at h
                  split at h
                  · rename_i z _ _ e2
                    cases h
                    rw [List.length_cons, List.length_cons, ih e2]
                  · cases h
              exact this q
            exact run_fnM F hr (.of_eq (binds_all D.po D.ko D.va D.ka D.df D.nm D.nd e2)) (passAt tk σ) I2 q2 ⟨Z, G2, ι2, h2, as, hlen, R2, q1, p2⟩
        have hplain : ((backTo pos (starEach es X.env)).any (·.1) || (backToKw pos (keywordEach [] X.env)).any (·.1.isNone)) = false := by rw [nostar_any hns]; rfl
        refine PySem.W.callWith_of hplain (PySem.W.keeps_K D.keep) ?_
        cases es with
        | nil =>
          refine evalArgs_kw2_nil rfl ?_
          rw [h0 rfl] at p0
          have := fin (us := []) I1 R .nil .nil p0
          exact PyProof.Rows.kwAll_nil this
        | cons e es =>
          obtain ⟨he, _⟩ := nostar_at hns X.env
          refine evalArgs_kw2 rfl ?_ he
          refine thn (ha.run pos pins s1 σ H1 (fun vs H1 => ∃ G1 ι1 h1 xs, HR (kx X) Z G1 ι1 h1 H1 ∧ RVs (kx X) G1 ι1 xs vs ∧ RP exc (kx X) (rV (kx X)) Z G1 ι1 H1 (cl f xs [] [] h1) Q (fun cls d H' => W cls d σ H')) I1
            ⟨Z, G, ι, h, ρ, R, S, p0.bind fun xs h1 G1 ι1 H1 vs n1 rx p1 => ⟨G1, ι1, h1, xs, n1.hr, rx, p1⟩⟩) fun us s2 ⟨vs, H2, I2, r2, G1, ι1, h1, xs, R1, rx, p1⟩ => ?_
          exact PyProof.Rows.kwAll_nil (fin I2 R1 rx r2 p1)
    · exact p0.elim
  · exact p0.elim
end
end Mx

end

section
set_option Elab.async false
set_option linter.all false
set_option maxRecDepth 100000
set_option maxHeartbeats 4000000
/-! What the checker takes runs as the small language says: expressions. -/
namespace Mx
open PySem PySem.Spec PyProof.Rows L2

/-- what holds of a context -/
structure Cg (L : Lk) (P : Pg) (cl : Calls) (W : WX) (X : Cx) : Prop where
  nd : X.N.Nodup
  calm : L.hot = false → X.calm = true
  un : X.A.units + 64 < cLine
  un5 : X.A.units + 65 < cLine
  free : ∀ x ∈ L.fr, X.mg x = none
  gcd : L.gcd = true → X.mg "gcd" = some (.builtin "math.gcd")
  con : ∀ x ∈ L.cons, ∃ v u y, P.con x = some v ∧ X.mg x = some u ∧ RelV y u ∧ ∀ G ι, RV (kx X) G ι v y
  tk : Takes X W
  fns : L.hot = false → ∀ f ∈ L.fns, ∃ a fd ps k b, DefK (kx X) f a fd ps ∧ FnOk X.prog X.w X.K X.mg X.base (L2.CX X.prog X.w) k a fd ps (spF P.exc (kx X) ps.length b) ∧ Room k X.A ∧
    ∀ xs ks ys h, cl f xs ks ys h = match argsOf ps xs ks ys with | none => .stuck | some as => b as h
  fnd : ∀ f, (P.fns f).isSome = true → f ∈ L.fns
  xf : ∀ c ∈ P.exc, ∀ C, X.mg c = some (.ref C) → XfC X.K C ∧ PySem.W.findIn X.K (.ref C) "value" = some none
section
variable {L : Lk} {P : Pg} {cl : Calls} {W : WX} {X : Cx}
theorem Cg.blk (C : Cg L P cl W X) (s : Shared) (H : Hp) (scope : Scope) (cenv : Env) (fp : List Addr) : Cg L P cl W0 (X.blk s H scope cenv fp) :=
  ⟨C.nd, C.calm, C.un, C.un5, C.free, C.gcd, C.con, takesN, C.fns, C.fnd, C.xf⟩
/-- the forms that are taken -/
def okE : Expr → Bool
  | .Name _ _ | .Constant _ _ _ | .Tuple _ _ _ | .List _ _ | .BinOp _ _ _ _ | .UnaryOp _ _ _ | .Compare _ _ _ _ | .BoolOp _ _ _ | .IfExp _ _ _ _ | .Subscript _ _ _ | .Call _ _ _ _ | .ListComp _ _ _ _ | .Attribute _ _ _ | .Dict _ _ _ => true
  | _ => false
theorem mE_ok {N : List Str} {sc : Scope} {a : Ae} {e : Expr} (h : mE L N sc a e = true) : okE e = true := by
  cases e <;> first | rfl | (cases a <;> cases h)
theorem ok_star {e : Expr} (h : okE e = true) (es : List Expr) (env : Env) : starEach (e :: es) env = (false, eval e env) :: starEach es env := by
  cases e <;> first | rfl | cases h
theorem ok_nostar {e : Expr} {es : List Expr} (h : okE e = true) (h' : nostar es = true) : nostar (e :: es) = true := by
  cases e <;> first | exact h' | cases h
theorem ok_set {e : Expr} (h : okE e = true) : isSet e = false := by cases e <;> first | rfl | cases h
theorem ok_slice {e : Expr} (h : okE e = true) : isSlice e = false := by cases e <;> first | rfl | cases h
theorem ok_fold {e : Expr} (h : okE e = true) (env : Env) : ∀ x, foldedSetIterable e env x = pure x := by
  intro x
  cases e <;> first | rfl | cases h
theorem mEs_nostar {N : List Str} {sc : Scope} : ∀ {as : Aes} {es : List Expr}, mEs L N sc as es = true → nostar es = true
  | .nil, [], _ => rfl
  | .nil, _ :: _, h => by cases h
  | .cons _ _, [], h => by cases h
  | .star _ _, [], h => by cases h
  | .star _ _, _ :: _, h => by cases h
  | .cons a as, e :: es, h => by
    unfold mEs at h
    rw [Bool.and_eq_true] at h
    exact ok_nostar (mE_ok h.1) (mEs_nostar h.2)
theorem mEs_nil {N : List Str} {sc : Scope} {as : Aes} (h : mEs L N sc as [] = true) : as = .nil := by
  cases as with
  | nil => rfl
  | cons _ _ => cases h
  | star _ _ => cases h
theorem mEs_len {N : List Str} {sc : Scope} : ∀ {as : Aes} {es : List Expr}, mEs L N sc as es = true → as.len = es.length
  | .nil, [], _ => rfl
  | .nil, _ :: _, h => by cases h
  | .cons _ _, [], h => by cases h
  | .star _ _, [], h => by cases h
  | .star _ _, _ :: _, h => by cases h
  | .cons a as, e :: es, h => by
    unfold mEs at h
    rw [Bool.and_eq_true] at h
    unfold Aes.len
    rw [mEs_len h.2, List.length_cons]
theorem bind_ok {α β : Type} {r : Res α} {f : α → MH → Res β} {b : β} {h : MH} (e : r.bind f = .ok b h) : ∃ a h1, r = .ok a h1 ∧ f a h1 = .ok b h := by
  cases r with
  | ok a h1 => exact ⟨a, h1, rfl, e⟩
  | exn _ _ _ => cases e
  | stuck => cases e
theorem evs_len {N : List Str} {sc : Scope} : ∀ {as : Aes} {es : List Expr} {ρ : Env'} {h : MH} {xs : List PV} {h' : MH}, mEs L N sc as es = true → evs P cl as ρ h = .ok xs h' → xs.length = as.len
  | .nil, _, ρ, h, xs, h', _, e => by
    unfold evs at e
    cases e; rfl
  | .star _ _, es, ρ, h, xs, h', hm, _ => by cases es <;> cases hm
  | .cons a as, [], ρ, h, xs, h', hm, e => by cases hm
  | .cons a as, _ :: _, ρ, h, xs, h', hm, e => by
    unfold mEs at hm
    rw [Bool.and_eq_true] at hm
    unfold evs at e
    obtain ⟨x, h1, e1, e2⟩ := bind_ok e
    obtain ⟨ys, h2, e3, e4⟩ := bind_ok e2
    cases e4
    rw [List.length_cons, evs_len hm.2 e3]
    rfl
theorem evD_len : ∀ {ps : Aps} {ρ : Env'} {h : MH} {xs : List (Key × PV)} {h' : MH}, evD P cl ps ρ h = .ok xs h' → xs.length = ps.len
  | .nil, ρ, h, xs, h', e => by
    unfold evD at e
    cases e; rfl
  | .cons k v ps, ρ, h, xs, h', e => by
    unfold evD at e
    obtain ⟨x, h1, e1, e2⟩ := bind_ok e
    obtain ⟨y, h2, e3, e4⟩ := bind_ok e2
    split at e4
    · obtain ⟨qs, h3, e5, e6⟩ := bind_ok e4
      cases e6
      rw [List.length_cons, evD_len e5]
      rfl
    · cases e4
theorem mKD_len {N : List Str} {sc : Scope} : ∀ {ps : Aps} {ks : List (Option Expr)} {vs : List Expr}, mKD L N sc ps ks vs = true → ks.length = vs.length ∧ ps.len = ks.length ∧ ks.all (·.isSome) = true
  | .nil, [], [], _ => ⟨rfl, rfl, rfl⟩
  | .nil, [], _ :: _, h => by cases h
  | .nil, _ :: _, _, h => by cases h
  | .cons _ _ _, [], _, h => by cases h
  | .cons _ _ _, none :: _, _, h => by cases h
  | .cons _ _ _, some _ :: _, [], h => by cases h
  | .cons k v ps, some x :: xs, y :: ys, h => by
    unfold mKD at h
    simp only [Bool.and_eq_true] at h
    obtain ⟨h1, h2, h3⟩ := mKD_len h.2
    refine ⟨by rw [List.length_cons, List.length_cons, h1], ?_, by rw [List.all_cons, h3]; rfl⟩
    unfold Aps.len
    rw [h2, List.length_cons]
theorem kw_of {N : List Str} {sc : Scope} : ∀ {ks : List Str} {as : Aes} {kws : List Keyword}, mKs L N sc ks as kws = true → kws.map (·.arg) = ks.map some
  | [], .nil, [], _ => rfl
  | [], .nil, _ :: _, h => by cases h
  | [], .cons _ _, _, h => by cases h
  | [], .star _ _, _, h => by cases h
  | _ :: _, .nil, _, h => by cases h
  | _ :: _, .star _ _, ks, h => by cases ks <;> cases h
  | _ :: _, .cons _ _, [], h => by cases h
  | k :: ks, .cons a as, ⟨n, e, p⟩ :: kws, h => by
    cases n with
    | none => cases h
    | some n =>
      unfold mKs at h
      simp only [Bool.and_eq_true, decide_eq_true_eq] at h
      obtain ⟨⟨rfl, _⟩, h2⟩ := h
      rw [List.map_cons, List.map_cons, kw_of h2]
theorem fr_of {x : Str} (C : Cg L P cl W X) (h : L.fr.contains x = true) : X.mg x = none := C.free x (List.contains_iff_mem.mp h)
theorem free_of {x : Str} (C : Cg L P cl W X) (h : freeB L X.env.scope x = true) : Gl X x ∧ (x == ("__debug__" : Str)) = false ∧ X.mg x = none := by
  unfold freeB at h
  rw [Bool.and_eq_true] at h
  exact ⟨(gl_of h.1).1, (gl_of h.1).2, fr_of C h.2⟩
theorem mk_nil : PK X [] (tA exc (kx X) W fun _ h => .ok [] h) := pk_nil.weak fun σ H Q q => by
  obtain ⟨Z, G, ι, h, ρ, R, S, p⟩ := q
  exact RP.ok_here p R .nil
theorem mk_cons {exc : List Str} {e : Expr} {nm : Option Str} {kp : Pos} {kws : List Keyword} {r : Env' → MH → Res PV} {rs : Env' → MH → Res (List PV)} (ha : PE X e (tE exc (kx X) W r)) (hr : PK X kws (tA exc (kx X) W rs)) :
    PK X (⟨nm, e, kp⟩ :: kws) (tA exc (kx X) W fun ρ h => (r ρ h).bind fun x h => (rs ρ h).bind fun xs h => .ok (x :: xs) h) := by
  refine (pk_cons ha hr).weak fun σ H Q q => ?_
  obtain ⟨Z, G, ι, h, ρ, R, S, p⟩ := q
  refine ⟨Z, G, ι, h, ρ, R, S, p.bind fun x h1 G1 ι1 H1 vx n1 rx p1 => ?_⟩
  refine ⟨Z, G1, ι1, h1, ρ, n1.hr, S.mono n1.same n1.pre, p1.bind fun y h2 G2 ι2 H2 vy n2 ry p2 => ?_⟩
  exact RP.ok_here p2 n2.hr (.cons (rx.mono n2.same n2.pre) ry)
/-- the value of a caught exception -/
theorem me_val {i : Nat} {x : Str} {p pos : Pos} (C : Cg L P cl W X) (hN : X.N[i]? = some x) (hv : Vis X.env.scope x) (hd : (x == ("__debug__" : Str)) = false) (hcd : (x == ("__classdict__" : Str)) = false) :
    PE X (.Attribute (.Name x p) "value" pos) (tE P.exc (kx X) W (ev P cl (.val i))) := by
  refine ⟨fun pins s σ H Q I q => ?_⟩
  obtain ⟨Z, G, ι, h, ρ, R, S, q⟩ := q
  unfold ev at q
  split at q
  · rename_i c v e
    split at q
    · rename_i hc
      obtain ⟨w, e2, rw2⟩ := S.2 i _ e
      refine attr_of rfl (thn ((pe_var (X := X) (pos := p) hN hv hd hcd).run pins s σ H (fun y H1 => y = w ∧ H1 = H) I ⟨w, e2, rfl, rfl⟩) fun u s1 ⟨y, H1, I1, r1, ey, eH⟩ => ?_)
      subst ey eH
      cases rw2 with
      | @exn a C' dd _ _ vv hm h1 h2 r =>
        obtain rfl : u = Value.ref a := r1
        obtain ⟨T, hno⟩ := C.xf c (List.contains_iff_mem.mp hc) C' hm
        obtain ⟨⟨oe, vs, ha, hcls, hdict, hdat⟩, _, _⟩ := I1.hok a _ (R.sub _ _ h1)
        have hx : ObjOk X.prog X.w H1 s1.heap dd (.xd [(("value" : Str), vv)]) := I1.hok dd _ (R.sub _ _ h2)
        obtain ⟨mA, hns, hr⟩ := hx
        obtain ⟨od, ho, hl⟩ := lookIn_ns hns
        obtain ⟨u, hu, ru⟩ := RelO.some_of (v := vv) (o := mA "value") (hr "value")
        have J : PySem.W.InstAt s1.heap a oe C' (some od) := ⟨ha, hcls, by unfold PySem.W.notCls; rw [hdat] <;> rfl, by rw [hdict]; exact ho⟩
        exact HandSPX.exc_get I1.kIn J T.ga T.gg T.exC (PySem.W.findObj_own T.hdC hno rfl (by rw [hl, hu])) (handed_of ru) ⟨vv, H1, I1.tok _, ru, RP.ok_here q R r⟩
    · exact q.elim
  · exact q.elim
theorem stuck_e {exc : List Str} {K : Wr} {e : Expr} : PE X e (tE exc K W fun _ _ => .stuck) := ⟨fun _ _ _ _ _ _ q => by
  obtain ⟨Z, G, ι, h, ρ, R, S, q⟩ := q
  exact q.elim⟩
theorem stuck_w {exc : List Str} {K : Wr} {e : Expr} : PW X e (tT exc K W (truR fun _ _ => .stuck)) := ⟨fun _ _ _ _ _ _ _ q => by
  obtain ⟨Z, G, ι, h, ρ, R, S, q⟩ := q
  exact q.elim⟩
end
end Mx

end

section
set_option Elab.async false
set_option linter.all false
set_option maxRecDepth 100000
set_option maxHeartbeats 8000000
/-! What the checker takes runs as the small language says: expressions, all forms. -/
namespace Mx
open PySem PySem.Spec PyProof.Rows L2
section
variable {L : Lk} {P : Pg} {cl : Calls}
theorem both {exc : List Str} {W : WX} {X : Cx} {e : Expr} {r : Env' → MH → Res PV} (h : PE X e (tE exc (kx X) W r)) (he : ∀ whole, isTrue e X.env whole = (do let v ← whole; standAt e.pos; holding [v] (PySem.truthy v))) : PE X e (tE exc (kx X) W r) ∧ PT X e (tT exc (kx X) W (truR r)) := ⟨h, mt_plain h he⟩
theorem noSp {x : Str} (h : noSpecial x = true) : (x == ("__debug__" : Str)) = false ∧ (x == ("__classdict__" : Str)) = false := by
  unfold noSpecial at h
  simpa using h
theorem tys_of {sc : Scope} {N : List Str} {X : Cx} {W : WX} (C : Cg L P cl W X) : ∀ {ts : List String} {es : List Expr}, tyEs L X.env.scope ts es = true → (∀ u ∈ ts, u ∈ askT) ∧ Paired (fun t e => PE X e (tC (.ty t)) ∧ ∀ es', starEach (e :: es') X.env = (false, eval e X.env) :: starEach es' X.env) ts es
  | [], [], _ => ⟨fun _ h => absurd h List.not_mem_nil, .nil⟩
  | [], _ :: _, h => by cases h
  | _ :: _, [], h => by cases h
  | t :: ts, e :: es, h => by
    unfold tyEs at h
    rw [Bool.and_eq_true] at h
    obtain ⟨h1, h2⟩ := h
    obtain ⟨q1, q2⟩ := tys_of (sc := sc) (N := N) C h2
    cases e <;> try (cases h1; done)
    rename_i x p
    simp only [tyE, Bool.and_eq_true, beq_iff_eq] at h1
    obtain ⟨⟨e1, e2⟩, e3⟩ := h1
    obtain ⟨g1, g2, g3⟩ := free_of C e2
    have hm : t ∈ askT := List.contains_iff_mem.mp e3
    refine ⟨fun u hu => ?_, .cons ⟨me_type e1 hm g1 g3, fun es' => rfl⟩ q2⟩
    rcases List.mem_cons.mp hu with rfl | hu
    · exact hm
    · exact q1 u hu
mutual
theorem sX : ∀ (a : Ae) {W : WX} {X : Cx} (C : Cg L P cl W X) {e : Expr}, mE L X.N X.env.scope a e = true → PE X e (tE P.exc (kx X) W (ev P cl a)) ∧ PT X e (tT P.exc (kx X) W (truR (ev P cl a)))
  | .v i, W, X, C, e, hm => by
    cases e <;> try (cases hm; done)
    simp only [mE, Bool.and_eq_true, decide_eq_true_eq] at hm
    obtain ⟨⟨h1, h2⟩, h3⟩ := hm
    exact both (me_var h1 (vis_of h2) (noSp h3).1 (noSp h3).2) fun _ => rfl
  | .non, W, X, C, e, hm => by
    cases e <;> try (cases hm; done)
    rename_i c k p
    cases c <;> try (cases hm; done)
    exact both me_non fun _ => rfl
  | .bl b, W, X, C, e, hm => by
    cases e <;> try (cases hm; done)
    rename_i c k p
    cases c <;> try (cases hm; done)
    simp only [mE, beq_iff_eq] at hm
    subst hm
    exact both me_bl fun _ => rfl
  | .int i, W, X, C, e, hm => by
    cases e <;> try (cases hm; done)
    rename_i c k p
    cases c <;> try (cases hm; done)
    simp only [mE, decide_eq_true_eq] at hm
    subst hm
    exact both me_int fun _ => rfl
  | .str x, W, X, C, e, hm => by
    cases e <;> try (cases hm; done)
    rename_i c k p
    cases c <;> try (cases hm; done)
    simp only [mE, decide_eq_true_eq] at hm
    subst hm
    exact both me_str fun _ => rfl
  | .con x, W, X, C, e, hm => by
    cases e <;> try (cases hm; done)
    simp only [mE, Bool.and_eq_true, decide_eq_true_eq] at hm
    obtain ⟨⟨rfl, h2⟩, h3⟩ := hm
    obtain ⟨v, u, y, e1, e2, e3, e4⟩ := C.con _ (List.contains_iff_mem.mp h3)
    have e : ev P cl (.con x) = fun _ h => .ok v h := by
      funext ρ h
      unfold ev
      rw [e1]
    rw [e]
    exact both (me_con (gl_of h2).1 e2 e3 e4 (gl_of h2).2) fun _ => rfl
  | .tup es, W, X, C, e, hm => by
    cases e <;> try (cases hm; done)
    simp only [mE, Bool.and_eq_true, decide_eq_true_eq] at hm
    exact both (me_tup (sXs es C hm.1) fun ρ h xs h' e => by rw [evs_len hm.1 e]; exact hm.2) fun _ => rfl
  | .lst r es, W, X, C, e, hm => by
    cases e <;> try (cases hm; done)
    simp only [mE, Bool.and_eq_true, decide_eq_true_eq] at hm
    exact both (me_lst (sXs es C hm.1) fun ρ h xs h' e => by rw [evs_len hm.1 e]; exact hm.2) fun _ => rfl
  | .bin op r a b, W, X, C, e, hm => by
    cases e <;> try (cases hm; done)
    simp only [mE, Bool.and_eq_true] at hm
    exact both (me_bin hm.1.1 (sX a C hm.1.2).1 (sX b C hm.2).1) fun _ => rfl
  | .neg a, W, X, C, e, hm => by
    cases e <;> try (cases hm; done)
    rename_i op x p
    cases op <;> try (cases hm; done)
    exact both (me_neg (sX a C hm).1) fun _ => rfl
  | .not a, W, X, C, e, hm => by
    cases e <;> try (cases hm; done)
    rename_i op x p
    cases op <;> try (cases hm; done)
    have := sX a C hm
    exact ⟨me_not this.1, mt_not this.2⟩
  | .cmp op a b, W, X, C, e, hm => by
    cases e <;> try (cases hm; done)
    rename_i x os ys p
    rcases os with _ | ⟨o, _ | _⟩ <;> try (cases hm; done)
    rcases ys with _ | ⟨y, _ | _⟩ <;> try (cases hm; done)
    simp only [mE, Bool.and_eq_true] at hm
    have ha := (sX a C hm.1.2).1
    have hb := (sX b C hm.2).1
    exact ⟨me_cmp hm.1.1 C.un (ok_set (mE_ok hm.2)) ha hb, mt_cmp hm.1.1 C.un (ok_set (mE_ok hm.2)) ha hb⟩
  | .chain op op' a b c, W, X, C, e, hm => by
    cases e <;> try (cases hm; done)
    rename_i x os ys p
    rcases os with _ | ⟨o, _ | ⟨o', _ | _⟩⟩ <;> try (cases hm; done)
    rcases ys with _ | ⟨y, _ | ⟨z, _ | _⟩⟩ <;> try (cases hm; done)
    simp only [mE, Bool.and_eq_true] at hm
    have ha := (sX a C hm.1.1.2).1
    have hb := (sX b C hm.1.2).1
    have hc := (sX c C hm.2).1
    exact ⟨me_chain hm.1.1.1.1 hm.1.1.1.2 C.un (ok_set (mE_ok hm.1.2)) (ok_set (mE_ok hm.2)) ha hb hc, mt_chain hm.1.1.1.1 hm.1.1.1.2 C.un (ok_set (mE_ok hm.1.2)) (ok_set (mE_ok hm.2)) ha hb hc⟩
  | .and es, W, X, C, e, hm => by
    cases e <;> try (cases hm; done)
    rename_i op xs p
    cases op <;> try (cases hm; done)
    have := sAnd es C (show mEs L X.N X.env.scope es xs = true from hm) p
    exact ⟨this.1, this.2.pt⟩
  | .or es, W, X, C, e, hm => by
    cases e <;> try (cases hm; done)
    rename_i op xs p
    cases op <;> try (cases hm; done)
    have := sOr es C (show mEs L X.N X.env.scope es xs = true from hm) p
    exact ⟨this.1, this.2.pt⟩
  | .ifx c a b, W, X, C, e, hm => by
    cases e <;> try (cases hm; done)
    simp only [mE, Bool.and_eq_true] at hm
    have hc := sX c C hm.1.1
    have ha := sX a C hm.1.2
    have hb := sX b C hm.2
    exact ⟨me_ifx hc.2 ha.1 hb.1, mt_ifx hc.2 ha.2 hb.2⟩
  | .ix a i, W, X, C, e, hm => by
    cases e <;> try (cases hm; done)
    simp only [mE, Bool.and_eq_true] at hm
    exact both (me_ix C.un (ok_slice (mE_ok hm.2)) (sX a C hm.1).1 (sX i C hm.2).1) fun _ => rfl
  | .sl r a lo hi, W, X, C, e, hm => by
    cases e <;> try (cases hm; done)
    rename_i x y p
    cases y <;> try (cases hm; done)
    rename_i l u st p2
    cases st <;> try (cases hm; done)
    simp only [mE, Bool.and_eq_true] at hm
    exact both (me_sl (sX a C hm.1.1).1 (sO lo C hm.1.2) (sO hi C hm.2)) fun _ => rfl
  | .call f es ks kes, W, X, C, e, hm => by
    cases e <;> try (cases hm; done)
    rename_i fn xs kws p
    cases fn <;> try (cases hm; done)
    simp only [mE, Bool.and_eq_true, decide_eq_true_eq, Bool.not_eq_true'] at hm
    obtain ⟨⟨⟨⟨⟨rfl, h2⟩, h3⟩, h4⟩, h5⟩, h6⟩ := hm
    obtain ⟨a, fd, ps, k, b, D, F, hr, hcl⟩ := C.fns h4 _ (List.contains_iff_mem.mp h3)
    exact both (me_call (cl := fun xs ys h => cl f xs ks ys h) D F hr C.tk (gl_of h2).1 (gl_of h2).2 (mEs_nostar h5) (kw_of h6) (sXs es C h5) (sKs kes C h6) (fun q ρ h => by
      subst q
      rw [mEs_nil h5]; rfl) (fun xs ys h => hcl xs ks ys h)) fun _ => rfl
  | .blt f r es, W, X, C, e, hm => by
    cases e <;> try (cases hm; done)
    rename_i fn xs kws p
    cases fn <;> try (cases hm; done)
    rename_i g gp
    cases kws with
    | cons _ _ => cases hm
    | nil =>
      simp only [mE, Bool.and_eq_true, decide_eq_true_eq, Bool.or_eq_true, Bool.not_eq_true'] at hm
      obtain ⟨⟨⟨⟨⟨h1, h2⟩, h3⟩, h4⟩, h5⟩, h6⟩ := hm
      have hl := mEs_len h5
      cases xs with
      | nil =>
        rw [h6] at hl
        cases f <;> cases hl
      | cons x xs =>
        have hn := nostar_at (mEs_nostar h5) X.env
        refine both ?_ fun _ => rfl
        refine me_blt h1 (gl_of h2).1 (fun q => ?_) ?_ (sXs es C h5) (gl_of h2).2 hn.1 (nostar_any hn.2)
        · rcases h4 with h4 | h4
          · rw [h4] at q; cases q
          · exact C.calm h4
        · split
          · rename_i ef
            rw [if_pos ef] at h3
            exact C.gcd h3
          · rename_i ef
            rw [if_neg ef] at h3
            exact fr_of C h3
  | .isi a ts, W, X, C, e, hm => by
    cases e <;> try (cases hm; done)
    rename_i fn xs kws p
    cases fn <;> try (cases hm; done)
    rename_i g gp
    cases kws with
    | cons _ _ => rcases xs with _ | ⟨x, _ | ⟨t, _ | _⟩⟩ <;> cases hm
    | nil =>
      rcases xs with _ | ⟨x, _ | ⟨t, _ | _⟩⟩ <;> try (cases hm; done)
      simp only [mE, Bool.and_eq_true, decide_eq_true_eq] at hm
      obtain ⟨⟨⟨h1, h2⟩, h3⟩, h4⟩ := hm
      obtain ⟨g1, g2, g3⟩ := free_of C h2
      have ha := (sX a C h3).1
      have hst := ok_star (mE_ok h3)
      split at h4
      · rename_i t1 nm np
        simp only [tyE, Bool.and_eq_true, beq_iff_eq] at h4
        obtain ⟨⟨e1, e2⟩, e3⟩ := h4
        obtain ⟨k1, k2, k3⟩ := free_of C e2
        have hmem : t1 ∈ askT := List.contains_iff_mem.mp e3
        exact both (me_isi1 h1 g1 g3 hmem ha (me_type e1 hmem k1 k3) (by rw [hst]; rfl) rfl) fun _ => rfl
      · rename_i us k tp _
        simp only [Bool.and_eq_true, decide_eq_true_eq] at h4
        obtain ⟨⟨q1, q2⟩, q3⟩ := h4
        obtain ⟨r1, r2⟩ := tys_of (sc := X.env.scope) (N := X.N) C q1
        exact both (me_isiT h1 g1 g3 r1 q2 ha r2 (by rw [hst]; rfl)) fun _ => rfl
      · cases h4
  | .met m r o es, W, X, C, e, hm => by
    cases e <;> try (cases hm; done)
    rename_i fn xs kws p
    cases fn <;> try (cases hm; done)
    rename_i ox g ap
    cases kws with
    | cons _ _ => cases hm
    | nil =>
      simp only [mE, Bool.and_eq_true, decide_eq_true_eq] at hm
      obtain ⟨⟨⟨⟨⟨h1, h2⟩, h3⟩, h4⟩, h5⟩, h6⟩ := hm
      have hl := mEs_len h4
      have ho := (sX o C h3).1
      refine both ?_ fun _ => rfl
      rcases xs with _ | ⟨y, _ | ⟨y2, _ | ⟨y3, xs⟩⟩⟩
      · rw [mEs_nil h4] at h6 ⊢
        exact me_met0 h1 h6 h2 h5 ho
      · rw [hl] at h6
        have hn := nostar_at (mEs_nostar h4) X.env
        have := me_met1 (m := m) (rs := evs P cl es) C.un5 h1 h6 h2 h5 ho (sXs es C h4) (by rw [hn.1]; rfl) fun ρ h xs h' e => by rw [evs_len h4 e, hl]; rfl
        have e : ev P cl (.met m r o es) = metR m 1 (ev P cl o) (evs P cl es) := by
          funext ρ h
          show (ev P cl o ρ h).bind _ = _
          rw [hl]
          rfl
        rw [e]; exact this
      · rcases es with _ | ⟨a1, _ | ⟨a2, _ | ⟨a3, es⟩ | ⟨a3, es⟩⟩ | ⟨a2, es⟩⟩ | ⟨a1, es⟩ <;> try (cases hl; done)
        · rw [hl] at h6
          simp only [mEs, Bool.and_eq_true] at h4
          have h41 := h4.1
          have h42 := h4.2.1
          have st1 := ok_star (mE_ok h41) [y2] X.env
          have st2 := ok_star (mE_ok h42) [] X.env
          have := me_met2 (m := m) C.un h1 h6 h2 h5 ho (sX a1 C h41).1 (sX a2 C h42).1 (by rw [st1, st2]; rfl) (by rw [st2]; rfl)
          have e : ev P cl (.met m r o (.cons a1 (.cons a2 .nil))) = metR m 2 (ev P cl o) (fun ρ h => (ev P cl a1 ρ h).bind fun x h => (ev P cl a2 ρ h).bind fun z h => .ok [x, z] h) := by
            funext ρ h
            have e1 : evs P cl (.cons a1 (.cons a2 .nil)) = fun ρ h => (ev P cl a1 ρ h).bind fun x h => (ev P cl a2 ρ h).bind fun z h => .ok [x, z] h := by
              funext ρ h
              unfold evs
              congr 1
              funext x h
              unfold evs
              rw [Res.assoc]
              rfl
            show (ev P cl o ρ h).bind _ = _
            rw [e1]
            rfl
          rw [e]; exact this
        · simp [mEs] at h4
        · simp [mEs] at h4
      · exfalso
        rw [hl] at h6
        cases m <;> simp [mtA] at h6
  | .tupS es, W, X, C, e, hm => by
    cases e <;> try (cases hm; done)
    exact both (me_tupS (sSt es C hm)) fun _ => rfl
  | .lstS r es, W, X, C, e, hm => by
    cases e <;> try (cases hm; done)
    exact both (me_lstS (sSt es C hm)) fun _ => rfl
  | .rev r a, W, X, C, e, hm => by
    cases e <;> try (cases hm; done)
    rename_i x sl p
    cases sl <;> try (cases hm; done)
    rename_i lo hi st p2
    cases lo <;> try (cases hm; done)
    cases hi <;> try (cases hm; done)
    cases st <;> try (cases hm; done)
    rename_i st
    cases st <;> try (cases hm; done)
    rename_i op c p3
    cases op <;> try (cases hm; done)
    cases c <;> try (cases hm; done)
    rename_i k kk p4
    cases k <;> try (cases hm; done)
    rename_i k
    by_cases hk : k = 1
    · subst hk
      exact both (me_rev (sX a C hm).1) fun _ => rfl
    · exact absurd hm (by simp [mE, hk])
  | .dnew ps, W, X, C, e, hm => by
    cases e <;> try (cases hm; done)
    simp only [mE, Bool.and_eq_true, decide_eq_true_eq] at hm
    obtain ⟨h1, h2⟩ := hm
    obtain ⟨l1, l2, l3⟩ := mKD_len h1
    refine both (me_dnew (sKD ps C h1) l3 l1 (by rw [← l2]; exact h2) (fun ρ h xs h' e => by rw [evD_len e]; exact h2) fun hk => ?_) fun _ => rfl
    subst hk
    cases ps with
    | nil => exact ⟨List.length_eq_zero_iff.mp l1.symm, fun _ _ => rfl⟩
    | cons _ _ _ => cases h1
  | .dzip a b, W, X, C, e, hm => by
    cases e <;> try (cases hm; done)
    rename_i fn xs kws p
    cases fn <;> try (cases hm; done)
    rename_i g gp
    rcases xs with _ | ⟨z, _ | _⟩ <;> try (cases hm; done)
    · cases z <;> try (cases hm; done)
      rename_i fz xz kz pz
      cases fz <;> try (cases hm; done)
      rename_i gz gzp
      rcases xz with _ | ⟨x, _ | ⟨y, _ | _⟩⟩ <;> try (cases hm; done)
      · cases kz with
        | cons _ _ => cases hm
        | nil => cases kws with
          | cons _ _ => cases hm
          | nil =>
            simp only [mE, Bool.and_eq_true, decide_eq_true_eq, Bool.not_eq_true'] at hm
            obtain ⟨⟨⟨⟨⟨⟨h0, h1⟩, h2⟩, h3⟩, h4⟩, h5⟩, h6⟩ := hm
            obtain ⟨g1, g2, g3⟩ := free_of C h2
            obtain ⟨k1, k2, k3⟩ := free_of C h4
            have st1 := ok_star (mE_ok h5) [y] X.env
            have st2 := ok_star (mE_ok h6) [] X.env
            exact both (me_dz h1 h3 (C.calm h0) g1 g3 k1 k3 (sX a C h5).1 (sX b C h6).1 (by rw [st1, st2]; rfl) (by rw [st2]; rfl)) fun _ => rfl
    · cases z <;> try (cases hm; done)
      rename_i fz xz kz pz
      cases fz <;> try (cases hm; done)
      rcases xz with _ | ⟨x, _ | ⟨y, _ | _⟩⟩ <;> try (cases hm; done)
      all_goals (cases kz <;> cases hm)
  | .fnv f, W, X, C, e, hm => by
    cases e <;> try (cases hm; done)
    simp only [mE, Bool.and_eq_true, decide_eq_true_eq, Bool.not_eq_true'] at hm
    obtain ⟨⟨⟨rfl, h2⟩, h3⟩, h4⟩ := hm
    obtain ⟨a, fd, ps, k, b, D, F, hr, hcl⟩ := C.fns h4 _ (List.contains_iff_mem.mp h3)
    refine both ⟨fun pins s σ H Q I q => (me_fnv (exc := P.exc) (W := W) D.mg (gl_of h2).1 (gl_of h2).2).run pins s σ H Q I ?_⟩ fun _ => rfl
    obtain ⟨Z, G, ι, h, ρ, R, S, p⟩ := q
    refine ⟨Z, G, ι, h, ρ, R, S, ?_⟩
    unfold ev at p
    split at p
    · exact p
    · exact p.elim
  | .calv i es, W, X, C, e, hm => by
    cases e <;> try (cases hm; done)
    rename_i fn xs kws p
    cases fn <;> try (cases hm; done)
    rename_i x xp
    cases kws with
    | cons _ _ => cases hm
    | nil =>
      simp only [mE, Bool.and_eq_true, decide_eq_true_eq, Bool.not_eq_true'] at hm
      obtain ⟨⟨⟨⟨h1, h2⟩, h3⟩, h4⟩, h5⟩ := hm
      refine both (me_calv (Pf := P.fns) h1 (vis_of h2) (noSp h3).1 (noSp h3).2 C.tk (fun f hf => ?_) (mEs_nostar h5) (sXs es C h5) (fun q ρ h => by
        subst q
        rw [mEs_nil h5]; rfl)) fun _ => rfl
      exact C.fns h4 f (C.fnd f hf)
  | .comp r elt g it ifs own, W, X, C, e, hm => by
    cases e <;> try (cases hm; done)
    rename_i ex gens scope p
    rcases gens with _ | ⟨⟨tg, iter, fs, asy⟩, _ | _⟩
    · cases hm
    · by_cases hz : asy = 0
      · subst hz
        simp only [mE, Bool.and_eq_true, decide_eq_true_eq, Bool.not_eq_true'] at hm
        obtain ⟨⟨⟨⟨⟨⟨h0, h1⟩, h2⟩, h3⟩, h4⟩, h5⟩, h6⟩ := hm
        have hc := C.calm h0
        refine both (me_comp (rt := evIfs P cl ifs) hc C.nd (sI (tg := tg) it C h3).1 (blkOk_by h1) h2 (fun s H C' cls fp => ?_) (fun s H C' cls fp => ?_) (fun s H C' cls fp => ?_) (sI (tg := tg) it C h3).2) fun _ => rfl
        · exact sG (X := X.blk s H scope (compEnvC scope cls C' X.env) fp) hc C.nd (fun x hx => hx) h4
        · exact sIfs ifs (C.blk s H scope (compEnvC scope cls C' X.env) fp) h5
        · exact (sX elt (C.blk s H scope (compEnvC scope cls C' X.env) fp) h6).1
      · exact absurd hm (by simp [mE, hz])
    · exact absurd hm (by simp [mE])
  | .val i, W, X, C, e, hm => by
    cases e <;> try (cases hm; done)
    rename_i o at_ p
    cases o <;> try (cases hm; done)
    simp only [mE, Bool.and_eq_true, decide_eq_true_eq] at hm
    obtain ⟨⟨⟨h1, h2⟩, h3⟩, rfl⟩ := hm
    exact both (me_val C h1 (.inl (onlyLoc_of h2)) (noSp h3).1 (noSp h3).2) fun _ => rfl
theorem sSt : ∀ (as : Aes) {W : WX} {X : Cx} (C : Cg L P cl W X) {es : List Expr}, mSt L X.N X.env.scope as es = true → PA X es (tA P.exc (kx X) W (evs P cl as))
  | .nil, W, X, C, es, hm => by
    cases es with
    | cons _ _ => cases hm
    | nil => exact me_nil
  | .cons a as, W, X, C, es, hm => by
    cases es with
    | nil => cases hm
    | cons e es =>
      simp only [mSt, Bool.and_eq_true] at hm
      exact me_cons (sX a C hm.1).1 (sSt as C hm.2) (ok_star (mE_ok hm.1) es X.env)
  | .star a as, W, X, C, es, hm => by
    cases es with
    | nil => cases hm
    | cons e es =>
      cases e <;> try (cases hm; done)
      simp only [mSt, Bool.and_eq_true] at hm
      exact me_star (sX a C hm.1).1 (sSt as C hm.2)
theorem sKD : ∀ (ps : Aps) {W : WX} {X : Cx} (C : Cg L P cl W X) {pos : Pos} {ks : List (Option Expr)} {vs : List Expr}, mKD L X.N X.env.scope ps ks vs = true → MPs X P.exc W pos ks vs (evD P cl ps)
  | .nil, W, X, C, pos, ks, vs, hm => by
    cases ks with
    | cons _ _ => cases hm
    | nil => cases vs with
      | cons _ _ => cases hm
      | nil => exact mps_nil
  | .cons k v ps, W, X, C, pos, ks, vs, hm => by
    cases ks with
    | nil => cases hm
    | cons k0 ks => cases k0 with
      | none => cases hm
      | some k0 => cases vs with
        | nil => cases hm
        | cons v0 vs =>
          simp only [mKD, Bool.and_eq_true] at hm
          exact mps_cons (sX k C hm.1.1).1 (sX v C hm.1.2).1 (sKD ps C hm.2)
theorem sXs : ∀ (as : Aes) {W : WX} {X : Cx} (C : Cg L P cl W X) {es : List Expr}, mEs L X.N X.env.scope as es = true → PA X es (tA P.exc (kx X) W (evs P cl as))
  | .star _ _, W, X, C, es, hm => by cases es <;> cases hm
  | .nil, W, X, C, es, hm => by
    cases es with
    | cons _ _ => cases hm
    | nil => exact me_nil
  | .cons a as, W, X, C, es, hm => by
    cases es with
    | nil => cases hm
    | cons e es =>
      simp only [mEs, Bool.and_eq_true] at hm
      exact me_cons (sX a C hm.1).1 (sXs as C hm.2) (ok_star (mE_ok hm.1) es X.env)
theorem sKs : ∀ (as : Aes) {W : WX} {X : Cx} (C : Cg L P cl W X) {ks : List Str} {kws : List Keyword}, mKs L X.N X.env.scope ks as kws = true → PK X kws (tA P.exc (kx X) W (evs P cl as))
  | .star _ _, W, X, C, ks, kws, hm => by cases ks <;> cases kws <;> cases hm
  | .nil, W, X, C, ks, kws, hm => by
    cases ks with
    | cons _ _ => cases hm
    | nil => cases kws with
      | cons _ _ => cases hm
      | nil => exact mk_nil
  | .cons a as, W, X, C, ks, kws, hm => by
    cases ks with
    | nil => cases hm
    | cons k ks => cases kws with
      | nil => cases hm
      | cons kw kws =>
        obtain ⟨n, e, kp⟩ := kw
        cases n with
        | none => cases hm
        | some n =>
          simp only [mKs, Bool.and_eq_true] at hm
          exact mk_cons (sX a C hm.1.2).1 (sKs as C hm.2)
theorem sAnd : ∀ (as : Aes) {W : WX} {X : Cx} (C : Cg L P cl W X) {es : List Expr}, mEs L X.N X.env.scope as es = true → ∀ pos, PE X (.BoolOp .And es pos) (tE P.exc (kx X) W (evAnd P cl as)) ∧ PW X (.BoolOp .And es pos) (tT P.exc (kx X) W (truR (evAnd P cl as)))
  | .nil, W, X, C, es, hm, pos => ⟨stuck_e, stuck_w⟩
  | .star _ _, W, X, C, es, hm, pos => by cases es <;> cases hm
  | .cons _ (.star _ _), W, X, C, es, hm, pos => by
    rcases es with _ | ⟨e, _ | ⟨e2, es⟩⟩
    · cases hm
    · simp [mEs] at hm
    · simp [mEs] at hm
  | .cons a .nil, W, X, C, es, hm, pos => by
    rcases es with _ | ⟨e, _ | _⟩ <;> try (cases hm; done)
    · simp only [mEs, Bool.and_eq_true] at hm
      have := sX a C hm.1
      exact ⟨me_one this.1, mw_and1 this.2⟩
    · simp only [mEs, Bool.and_eq_true] at hm
      cases hm.2
  | .cons a (.cons b as), W, X, C, es, hm, pos => by
    rcases es with _ | ⟨e, _ | ⟨e2, es⟩⟩ <;> try (cases hm; done)
    · simp only [mEs, Bool.and_eq_true] at hm
      cases hm.2
    · unfold mEs at hm
      rw [Bool.and_eq_true] at hm
      have h1 := sX a C hm.1
      have h2 := sAnd (.cons b as) C hm.2 pos
      exact ⟨me_and h1.1 h2.1, mw_and h1.2 h2.2⟩
theorem sOr : ∀ (as : Aes) {W : WX} {X : Cx} (C : Cg L P cl W X) {es : List Expr}, mEs L X.N X.env.scope as es = true → ∀ pos, PE X (.BoolOp .Or es pos) (tE P.exc (kx X) W (evOr P cl as)) ∧ PW X (.BoolOp .Or es pos) (tT P.exc (kx X) W (truR (evOr P cl as)))
  | .nil, W, X, C, es, hm, pos => ⟨stuck_e, stuck_w⟩
  | .star _ _, W, X, C, es, hm, pos => by cases es <;> cases hm
  | .cons _ (.star _ _), W, X, C, es, hm, pos => by
    rcases es with _ | ⟨e, _ | ⟨e2, es⟩⟩
    · cases hm
    · simp [mEs] at hm
    · simp [mEs] at hm
  | .cons a .nil, W, X, C, es, hm, pos => by
    rcases es with _ | ⟨e, _ | _⟩ <;> try (cases hm; done)
    · simp only [mEs, Bool.and_eq_true] at hm
      have := sX a C hm.1
      exact ⟨me_one this.1, mw_or1 this.2⟩
    · simp only [mEs, Bool.and_eq_true] at hm
      cases hm.2
  | .cons a (.cons b as), W, X, C, es, hm, pos => by
    rcases es with _ | ⟨e, _ | ⟨e2, es⟩⟩ <;> try (cases hm; done)
    · simp only [mEs, Bool.and_eq_true] at hm
      cases hm.2
    · unfold mEs at hm
      rw [Bool.and_eq_true] at hm
      have h1 := sX a C hm.1
      have h2 := sOr (.cons b as) C hm.2 pos
      exact ⟨me_or h1.1 h2.1, mw_or h1.2 h2.2⟩
theorem sO : ∀ (a : Ao) {W : WX} {X : Cx} (C : Cg L P cl W X) {e : Option Expr}, mO L X.N X.env.scope a e = true → PO X e (tOi P.exc (kx X) W (evo P cl a))
  | .none, W, X, C, e, hm => by
    cases e with
    | some _ => cases hm
    | none => exact mo_none
  | .some a, W, X, C, e, hm => by
    cases e with
    | none => cases hm
    | some e => exact mo_some (sX a C hm).1
theorem sIfs : ∀ (a : Ao) {W : WX} {X : Cx} (C : Cg L P cl W X) {es : List Expr}, mIfs L X.N X.env.scope a es = true → PTs X es (tT P.exc (kx X) W (evIfs P cl a))
  | .none, W, X, C, es, hm => by
    cases es with
    | cons _ _ => cases hm
    | nil => exact mt_none
  | .some a, W, X, C, es, hm => by
    rcases es with _ | ⟨e, _ | _⟩ <;> try (cases hm; done)
    exact mt_some (sX a C hm).2
theorem sI : ∀ (a : Ai) {W : WX} {X : Cx} (C : Cg L P cl W X) {tg e : Expr}, mI L X.N X.env.scope tg a e = true → PI X tg e (tI P.exc (kx X) W (evi P cl a)) ∧ ∀ x, foldedSetIterable e X.env x = pure x
  | .ex a, W, X, C, tg, e, hm => ⟨mi_any (sX a C hm).1, ok_fold (mE_ok (show mE L X.N X.env.scope a e = true from hm)) X.env⟩
  | .range1 a, W, X, C, tg, e, hm => by
    cases e <;> try (cases hm; done)
    rename_i fn xs kws p
    cases fn <;> try (cases hm; done)
    cases kws with
    | cons _ _ => rcases xs with _ | ⟨x, _ | _⟩ <;> cases hm
    | nil =>
      rcases xs with _ | ⟨x, _ | _⟩ <;> try (cases hm; done)
      simp only [mI, Bool.and_eq_true, decide_eq_true_eq] at hm
      obtain ⟨⟨rfl, h2⟩, h3⟩ := hm
      obtain ⟨g1, g2, g3⟩ := free_of C h2
      exact ⟨mi_range1 g1 g3 (sX a C h3).1 (ok_star (mE_ok h3) [] X.env), fun _ => rfl⟩
  | .range2 a b, W, X, C, tg, e, hm => by
    cases e <;> try (cases hm; done)
    rename_i fn xs kws p
    cases fn <;> try (cases hm; done)
    cases kws with
    | cons _ _ => rcases xs with _ | ⟨x, _ | ⟨y, _ | _⟩⟩ <;> cases hm
    | nil =>
      rcases xs with _ | ⟨x, _ | ⟨y, _ | _⟩⟩ <;> try (cases hm; done)
      simp only [mI, Bool.and_eq_true, decide_eq_true_eq] at hm
      obtain ⟨⟨⟨rfl, h2⟩, h3⟩, h4⟩ := hm
      obtain ⟨g1, g2, g3⟩ := free_of C h2
      exact ⟨mi_range2 g1 g3 (sX a C h3).1 (sX b C h4).1 (by rw [ok_star (mE_ok h3), ok_star (mE_ok h4)]; rfl) (by rw [ok_star (mE_ok h4)]; rfl), fun _ => rfl⟩
  | .range3 a b c, W, X, C, tg, e, hm => by
    cases e <;> try (cases hm; done)
    rename_i fn xs kws p
    cases fn <;> try (cases hm; done)
    cases kws with
    | cons _ _ => rcases xs with _ | ⟨x, _ | ⟨y, _ | ⟨z, _ | _⟩⟩⟩ <;> cases hm
    | nil =>
      rcases xs with _ | ⟨x, _ | ⟨y, _ | ⟨z, _ | _⟩⟩⟩ <;> try (cases hm; done)
      simp only [mI, Bool.and_eq_true, decide_eq_true_eq] at hm
      obtain ⟨⟨⟨⟨h1, h2⟩, h3⟩, h4⟩, h5⟩ := hm
      obtain ⟨g1, g2, g3⟩ := free_of C h2
      have s3 := ok_star (mE_ok h5) [] X.env
      have s2 := ok_star (mE_ok h4) [z] X.env
      have s1 := ok_star (mE_ok h3) [y, z] X.env
      exact ⟨mi_range3 h1 g1 g3 (sX a C h3).1 (sX b C h4).1 (sX c C h5).1 (by rw [s1, s2, s3]; rfl) (by rw [s2, s3]; rfl) (by rw [s3]; rfl), fun _ => rfl⟩
  | .zip2 a b, W, X, C, tg, e, hm => by
    cases e <;> try (cases hm; done)
    rename_i fn xs kws p
    cases fn <;> try (cases hm; done)
    cases kws with
    | cons _ _ => rcases xs with _ | ⟨x, _ | ⟨y, _ | _⟩⟩ <;> cases hm
    | nil =>
      rcases xs with _ | ⟨x, _ | ⟨y, _ | _⟩⟩ <;> try (cases hm; done)
      simp only [mI, Bool.and_eq_true, decide_eq_true_eq] at hm
      obtain ⟨⟨⟨⟨h0, h1⟩, h2⟩, h3⟩, h4⟩ := hm
      obtain ⟨g1, g2, g3⟩ := free_of C h2
      cases tg <;> try (cases h0; done)
      have s2 := ok_star (mE_ok h4) [] X.env
      have s1 := ok_star (mE_ok h3) [y] X.env
      exact ⟨mi_zip2 h1 g1 g3 (sX a C h3).1 (sX b C h4).1 (by rw [s1, s2]; rfl) (by rw [s2]; rfl), fun _ => rfl⟩
  | .zip3 _ _ _, W, X, C, tg, e, hm => by cases hm
  | .enum _, W, X, C, tg, e, hm => by cases hm
  | .rev _, W, X, C, tg, e, hm => by cases hm
end
end
end Mx

end

section
set_option Elab.async false
set_option linter.all false
set_option maxRecDepth 100000
set_option maxHeartbeats 8000000
/-! Statements: what is wanted behind them; try. -/
namespace Mx
open PySem PySem.Spec PyProof.Rows L2

/-- what is wanted behind a run of statements -/
def OP (exc : List Str) (K : Wr) (W : WX) (Z : List Addr) (G : Hp) (ι : List Addr) (H : Hp) (o : Out) (D : Ends) : Prop := match o with
  | .nx ρ h' => ∀ G' ι' H' σ', Nx K Z G ι H G' ι' h' H' → SR K G' ι' ρ σ' → D.nx σ' H'
  | .bk ρ h' => ∀ G' ι' H' σ', Nx K Z G ι H G' ι' h' H' → SR K G' ι' ρ σ' → D.bk σ' H'
  | .ct ρ h' => ∀ G' ι' H' σ', Nx K Z G ι H G' ι' h' H' → SR K G' ι' ρ σ' → D.ct σ' H'
  | .rt v h' => ∀ G' ι' H' x, Nx K Z G ι H G' ι' h' H' → RV K G' ι' v x → D.rt x H'
  | .exn c v ρ h' => c ∈ exc ∧ ∀ G' ι' H' σ' C dd x, Nx K Z G ι H G' ι' h' H' → SR K G' ι' ρ σ' → K.mg c = some (.ref C) → G' dd = some (.xd [(("value" : Str), x)]) → RV K G' ι' v x → W (.ref C) (some dd) σ' H'
  | .stuck => False
/-- a row of statements' reading: what its run hands on -/
def tS (exc : List Str) (K : Wr) (W : WX) (r : Env' → MH → Out) : TS := fun D σ H => ∃ Z G ι h ρ, HR K Z G ι h H ∧ SR K G ι ρ σ ∧ OP exc K W Z G ι H (r ρ h) D
section
variable {exc : List Str} {K : Wr} {W W' : WX} {Z : List Addr} {G G1 : Hp} {ι ι1 : List Addr} {h h1 : MH} {H H1 : Hp} {α β : Type} {D : Ends}
variable {R : Hp → List Addr → α → β → Prop}
theorem OP.later {o : Out} (p : OP exc K W Z G ι H o D) (n : Nx K Z G ι H G1 ι1 h1 H1) : OP exc K W Z G1 ι1 H1 o D := by
  cases o with
  | nx ρ h' => exact fun G' ι' H' σ' n' S => p G' ι' H' σ' (n.trans n') S
  | bk ρ h' => exact fun G' ι' H' σ' n' S => p G' ι' H' σ' (n.trans n') S
  | ct ρ h' => exact fun G' ι' H' σ' n' S => p G' ι' H' σ' (n.trans n') S
  | rt v h' => exact fun G' ι' H' x n' S => p G' ι' H' x (n.trans n') S
  | exn c v ρ h' => exact ⟨p.1, fun G' ι' H' σ' C dd x n' S => p.2 G' ι' H' σ' C dd x (n.trans n') S⟩
  | stuck => exact p
theorem OP.out {ρ : Env'} {σ : L2.St} {r : Res α} {f : α → MH → Out} {Q1 : β → Hp → Prop} (S : SR K G ι ρ σ) (p : OP exc K W Z G ι H (r.out ρ f) D)
    (k : ∀ a h1 G1 ι1 H1 b, Nx K Z G ι H G1 ι1 h1 H1 → R G1 ι1 a b → OP exc K W Z G1 ι1 H1 (f a h1) D → Q1 b H1) : RP exc K R Z G ι H r Q1 (fun cls d H' => W cls d σ H') := by
  cases r with
  | ok a h' => exact fun G' ι' H' b n q => k a h' G' ι' H' b n q (OP.later p n)
  | exn c v h' => exact ⟨p.1, fun G' ι' H' C dd x n a b q => p.2 G' ι' H' σ C dd x n (S.mono n.same n.pre) a b q⟩
  | stuck => exact p
theorem OP.seq {o : Out} {f : Env' → MH → Out} {N : L2.St → Hp → Prop} (p : OP exc K W Z G ι H (o.seq f) D)
    (k : ∀ ρ1 h1 G1 ι1 H1 σ1, Nx K Z G ι H G1 ι1 h1 H1 → SR K G1 ι1 ρ1 σ1 → OP exc K W Z G1 ι1 H1 (f ρ1 h1) D → N σ1 H1) : OP exc K W Z G ι H o { D with nx := N } := by
  cases o with
  | nx ρ h' => exact fun G' ι' H' σ' n S => k ρ h' G' ι' H' σ' n S (OP.later p n)
  | bk ρ h' => exact p
  | ct ρ h' => exact p
  | rt v h' => exact p
  | exn c v ρ h' => exact p
  | stuck => exact p
theorem OP.turn {o : Out} {f : Env' → MH → Out} {N : L2.St → Hp → Prop} (p : OP exc K W Z G ι H (o.turn f) D)
    (k : ∀ ρ1 h1 G1 ι1 H1 σ1, Nx K Z G ι H G1 ι1 h1 H1 → SR K G1 ι1 ρ1 σ1 → OP exc K W Z G1 ι1 H1 (f ρ1 h1) D → N σ1 H1) : OP exc K W Z G ι H o { D with nx := N, ct := N, bk := D.nx } := by
  cases o with
  | nx ρ h' => exact fun G' ι' H' σ' n S => k ρ h' G' ι' H' σ' n S (OP.later p n)
  | bk ρ h' => exact p
  | ct ρ h' => exact fun G' ι' H' σ' n S => k ρ h' G' ι' H' σ' n S (OP.later p n)
  | rt v h' => exact p
  | exn c v ρ h' => exact p
  | stuck => exact p
theorem OP.nx_here {ρ : Env'} {σ : L2.St} (p : OP exc K W Z G ι H (.nx ρ h) D) (R : HR K Z G ι h H) (S : SR K G ι ρ σ) : D.nx σ H := p G ι H σ (Nx.refl R) S
theorem OP.noxW {o : Out} (p : OP exc K W Z G ι H o.nox D) : OP exc K W' Z G ι H o D := by
  cases o with
  | nx ρ h' => exact p
  | bk ρ h' => exact p
  | ct ρ h' => exact p
  | rt v h' => exact p
  | exn c v ρ h' => exact p.elim
  | stuck => exact p
theorem OP.gone {o : Out} {i : Nat} (p : OP exc K W Z G ι H (o.gone i) D) : OP exc K W' Z G ι H o { nx := fun σ' H' => D.nx (σ'.set i none) H', rt := D.rt, bk := fun σ' H' => D.bk (σ'.set i none) H', ct := fun σ' H' => D.ct (σ'.set i none) H' } := by
  cases o with
  | nx ρ h' => exact fun G' ι' H' σ' n S => p G' ι' H' _ n (S.clear i)
  | bk ρ h' => exact fun G' ι' H' σ' n S => p G' ι' H' _ n (S.clear i)
  | ct ρ h' => exact fun G' ι' H' σ' n S => p G' ι' H' _ n (S.clear i)
  | rt v h' => exact p
  | exn c v ρ h' => exact p.elim
  | stuck => exact p
end

/-! ### try -/
section
variable {X : Cx} {pins : List (Addr × Obj)} {σ : L2.St} {H : Hp} {sI s3 : Shared} {a : Addr} {o : HO}
/-- a thing that stands in the heap is looked after from now on -/
theorem inv_track (J : Inv X pins σ H sI) (J3 : Inv X pins σ H s3) (ha : sI.heap.get? a = none) (hn : H a = none) (new : ObjOk X.prog X.w (upd H a o) s3.heap a o) : Inv X pins σ (upd H a o) s3 := by
  have neOf : ∀ {b u}, sI.heap.get? b = some u → b ≠ a := fun {b u} e z => by rw [z, ha] at e; cases e
  refine ⟨J3.ok, J3.os, J3.bare, ⟨J3.base.keep, J3.base.slot, fun b ob e n hx => ?_, J3.base.there, fun b xs e => ?_, fun b ob xs e => ?_, fun b ps e => ?_⟩, J3.loc, J3.cell, ?_, fun x c e => ?_, fun p hp => ?_, fun b u e => ?_, J3.len⟩
  · obtain ⟨o', q⟩ := J.base.there b ob e hx
    rw [upd_ne (neOf q)]; exact J3.base.free b ob e n hx
  · rw [upd_ne (ne_of_none (J3.base.tups b xs e) hn)]; exact J3.base.tups b xs e
  · rw [upd_ne (ne_of_none (J3.base.frzs b ob xs e) hn)]; exact J3.base.frzs b ob xs e
  · obtain ⟨more, q⟩ := J3.base.tbls b ps e
    exact ⟨more, by rw [upd_ne (ne_of_none q hn)]; exact q⟩
  · obtain ⟨m, hm, _⟩ := J.loc
    obtain ⟨ob, _, _, q, _⟩ := hm
    rw [upd_ne (neOf q)]; exact J3.free
  · obtain ⟨v, z⟩ := J.cell x c e
    obtain ⟨ob, q, _⟩ := z
    rw [upd_ne (neOf q)]; exact J3.freeC x c e
  · obtain ⟨e1, e2, e3, e4, e5⟩ := J3.pin p hp
    rw [upd_ne (neOf (J.pin p hp).1)]
    exact ⟨e1, e2, e3, e4, e5⟩
  · by_cases hb : b = a
    · subst hb; rw [upd_same] at e; cases e; exact new
    · rw [upd_ne hb] at e
      exact (J3.hok b u e).stay (fun _ _ _ q => q) (fun c q => by rw [upd_ne (ne_of_none q hn)]; exact q) fun c xs q => by rw [upd_ne (ne_of_none q hn)]; exact q
end
/-- one except clause: its class, the slot of its name, what its suite does -/
abbrev HdT := Value × Option Nat × TS
def wEnd (D : Ends) : Option Nat → Ends
  | none => D
  | some i => { nx := fun σ' H' => D.nx (σ'.set i none) H', rt := D.rt, bk := fun σ' H' => D.bk (σ'.set i none) H', ct := fun σ' H' => D.ct (σ'.set i none) H' }
def wSet (σ : L2.St) (a : Addr) : Option Nat → L2.St
  | none => σ
  | some i => σ.set i (some (.ref a))
/-- what the clauses wish of an exception of the body -/
def wHds (K : PySem.W.Frag) (Wout : WX) (D : Ends) : List HdT → WX
  | [] => Wout
  | (c, i, ts) :: r => fun cls d σ H => ∃ b, PySem.W.exmOne K cls c = some b ∧ (b = true → ∃ C dd, cls = .ref C ∧ d = some dd ∧ ∀ a, H a = none → ts (wEnd D i) (wSet σ a i) (upd H a (ExV C dd a))) ∧ (b = false → wHds K Wout D r cls d σ H)
/-- a clause's name is a local -/
def HdN (X : Cx) : Option Str → Option Nat → Prop
  | none, none => True
  | some n, some i => X.N[i]? = some n ∧ X.env.kindOf n = some .local
  | _, _ => False
inductive HdsK (X : Cx) : List ExceptHandler → List HdT → Prop
  | nil : HdsK X [] []
  | cons {x : Str} {c : Value} {i : Option Nat} {n : Option Str} {ts : TS} {b₀ : Stmt} {suite : List Stmt} {np pos' : Pos} {hds : List ExceptHandler} {l : List HdT} (hc : Names X x c) (hn : HdN X n i)
      (hsu : ∀ (a : Addr) (pn : List (Addr × Obj)), PSs (X.suite a pn) (b₀ :: suite) ts) (r : HdsK X hds l) :
      HdsK X (.ExceptHandler (some (.Name x np)) n (b₀ :: suite) pos' :: hds) ((c, i, ts) :: l)
section
variable {X : Cx} {body : List Stmt} {h₀ : ExceptHandler} {hds : List ExceptHandler} {l : List HdT} {pos : Pos} {tb : WX → TS} {Wout : WX}
theorem ps_try_own (hs : X.stack = X.env :: X.outer) (hf : X.env.frame = some X.env.locals) (hN : X.N.Nodup) (tk : Takes X Wout)
    (hb : ∀ (W : WX) (pn : List (Addr × Obj)) (xe : Value → Shared → Prop), Takes (X.tr pn xe) W → PassesOwn (model X.prog X.w) X.A X.env xe → PSs (X.tr pn xe) body (tb W))
    (hh : HdsK X (h₀ :: hds) l) : PS X (.Try body (h₀ :: hds) [] [] pos) (fun D σ H => tb (wHds X.K Wout D l) D σ H) := by
  refine ⟨fun pins s σ H D I h => ?_⟩
  have ok := I.ok
  have hfr : X.A.frames = some (X.env :: X.outer) := by rw [ok.frames, hs]
  refine wpAny_Try_except ?_
  refine wpAny_mono ((hb (wHds X.K Wout D l) (X.pn ++ pins) (fun e s₁ => wpAny (model X.prog X.w) X.A (noteFrame e X.env) (fun _ s₂ => wpAny (model X.prog X.w) X.A (setFlight e none) (fun _ s₃ =>
    wpAny (model X.prog X.w) X.A (handleBy e X.env (h₀ :: hds)) (SP X pins D) X.xe s₃) X.xe s₂) X.xe s₁) (fun u s' xx => ?_) PassesOwn.looking).run [] s σ H D (I.toTry _) h) (fun f s1 hsp => ?_) (fun e s1 he => he)
  · -- the catch
    obtain ⟨a, B, sI, pins', σ', H', cls, d, rfl, J', nb, up, sky, na, os, ag, w⟩ := xx
    have J : Inv X pins σ' H' sI := J'.ofTry ok
    have sky' : Sky B (X.env :: X.outer) a (Zc cls d) X.env.locals s'.heap := by rw [← hs]; exact sky
    show wpAny (model X.prog X.w) X.A (noteFrame (.ref a) X.env) _ _ _
    refine Sky.land Zc.steady hfr hf sky' fun h3 fl3 up3 => ?_
    have J3 : Inv X pins σ' H' { s' with heap := h3 } := J.landed nb fl3.1 (up.trans up3) os ag
    obtain ⟨oe3, vs3, he3, hz3, hd3⟩ := fl3.there
    have notFr : ∀ {h : Heap} {o : Obj} {vs : Array Value}, h.FunFrames B (X.env :: X.outer) → h.get? a = some o → o.data = .fields vs → a ∉ frs (X.env :: X.outer) := fun {h o vs} ff e dd hm => by
      obtain ⟨_, o', e', hnf⟩ := ff.mem hm
      rw [e] at e'; cases e'
      exact hnf _ dd
    have nfr := notFr fl3.2.2.1 he3 hd3
    have haI : sI.heap.get? a = none := by
      cases q : sI.heap.get? a with
      | none => rfl
      | some o =>
        have := nb a o q (by rw [hs]; exact nfr)
        rw [fl3.2.1] at this; cases this
    have nL : a ≠ X.env.locals := fun z => nfr (List.mem_filterMap.mpr ⟨X.env, List.mem_cons_self, by rw [hf, z]⟩)
    have nF : a ∉ X.fs := fun hm => by
      obtain ⟨e, he, q⟩ := List.mem_filterMap.mp hm
      exact nfr (List.mem_filterMap.mpr ⟨e, List.mem_cons_of_mem _ he, q⟩)
    have S3 := J3.suite he3 hd3 na nL nF
    have go : ∀ {hds' : List ExceptHandler} {l' : List HdT}, HdsK X hds' l' → wHds X.K Wout D l' cls d σ' H' →
        wpAny (model X.prog X.w) X.A (handleBy (.ref a) X.env hds') (SP X pins D) X.xe { s' with heap := h3 } := by
      intro hds' l' hk
      induction hk with
      | nil =>
        intro w
        refine wpAny_handleBy_nil ?_
        obtain ⟨k1, k2, k3, oe, vs, T, oT, ts', he, hz, hd, h1, hr⟩ := id fl3
        unfold PySem.passOn
        refine wpAny_bind (wpAny_field he hd h1 ?_)
        rw [if_neg (show ¬ ((Value.ref T == Value.none) = true) from by simp)]
        have fin : wpAny (model X.prog X.w) X.A (setFlight (.ref a) X.env.frame) (fun _ s4 => wpAny (model X.prog X.w) X.A (throw (.ref a) : Sem Flow) (SP X pins D) X.xe s4) X.xe { s' with heap := h3 } := by
          rw [hf]
          refine HandSPX.setFlight_upZ fl3 fun h4 hh4 up4 => wpAny_throw (tk _ _ ?_)
          exact ⟨a, B, sI, pins, σ', H', cls, d, rfl, J, nb, (up.trans up3).trans up4, .inr (.inr (by rw [hs]; exact hh4)), na, os, ag, w⟩
        first
          | exact wpAny_bind (wpAny_pure (wpAny_bind fin))
          | exact wpAny_bind fin
      | @cons x c i n ts b₀ suite np pos' hds2 l2 hc hn hsu r ih =>
        intro w
        obtain ⟨b, hb1, hyes, hno⟩ := w
        refine wpAny_handleBy_cons (codeAny_handlers_test ?_) (by intro q; cases q)
        have LT : PySem.W.Looks (model X.prog X.w) h3 (typeOf (.ref a)) cls := fun A Q E s k q => wpAny_typeOf_ref (k _ _ he3) (by rw [hz3.1]; exact q)
        have LM := PySem.W.exm_one (M := model X.prog X.w) (J3.kIn) LT hb1
        have test : ∀ {Q : Value → Shared → Prop} {E : Value → Shared → Prop}, Q c { s' with heap := h3 } → wpAny (model X.prog X.w) (X.A.mark (some (.ref a))) (eval (.Name x np) X.env) Q E { s' with heap := h3 } := fun {Q E} q => by
          obtain ⟨hg, hdbg, hm | ⟨hm, hv, hnn⟩⟩ := hc
          · exact ld_glob (X := X.suite a ((a, oe3) :: (X.pn ++ pins))) S3 hg hm q hdbg
          · exact ld_blt (X := X.suite a ((a, oe3) :: (X.pn ++ pins))) S3 hg hm hv q hnn hdbg
        refine test (LM.here ?_)
        cases b with
        | true =>
          obtain ⟨C, dd, ec, ed, hy⟩ := hyes rfl
          subst ec ed
          -- the suite, from the landed state
          have track : ∀ {h4 : Heap}, HandSPX.FlyingZ B (X.env :: X.outer) a (Zc (.ref C) (some dd)) h4 → h3.UpToSlots h4 → Inv (X.suite a (X.pn ++ pins)) [] σ' (upd H' a (ExV C dd a)) { s' with heap := h4 } := by
            intro h4 fl4 up4
            have J4 : Inv X pins σ' H' { s' with heap := h4 } := J.landed nb fl4.1 ((up.trans up3).trans up4) os ag
            obtain ⟨oe4, vs4, he4, hz4, hd4⟩ := fl4.there
            have T4 : Inv X pins σ' (upd H' a (ExV C dd a)) { s' with heap := h4 } := inv_track J J4 haI na
              ⟨⟨oe4, vs4, he4, hz4.1, hz4.2, hd4⟩, ⟨_, he4⟩, fun g1 g2 ⟨oe, vs, e1, e2, e3, e4⟩ k => ⟨oe, vs, k _ e1, e2, e3, e4⟩⟩
            exact ⟨T4.ok.suite _ _, T4.os, T4.bare, T4.base, T4.loc, T4.cell, T4.free, T4.freeC, fun p hp => by
              have hp' : p ∈ X.pn ++ pins := by rw [List.append_nil] at hp; exact hp
              exact T4.pin p hp', T4.hok, T4.len⟩
          have back : ∀ {σ6 : L2.St} {H6 : Hp} {s6 : Shared}, Inv (X.suite a (X.pn ++ pins)) [] σ6 H6 s6 → Inv X pins σ6 H6 s6 := fun {σ6 H6 s6} I6 =>
            ⟨ok, I6.os, I6.bare, I6.base, I6.loc, I6.cell, I6.free, I6.freeC, fun p hp => I6.pin p (List.mem_append_left _ hp), I6.hok, I6.len⟩
          cases n with
          | none =>
            cases i with
            | some _ => exact hn.elim
            | none =>
              refine codeAny_handlers_suite ?_
              refine HandSPX.lands_againZ fl3 fun h4 fl4 up4 => ?_
              have S4 := track fl4 up4
              refine wpAny_mono ((hsu a (X.pn ++ pins)).run [] _ _ _ _ S4 (hy a na)) (fun f s6 hsp => ?_) (fun _ _ z => False.elim z)
              cases f with
              | next =>
                obtain ⟨σ6, H6, S6, q6⟩ := hsp
                exact ⟨_, _, back S6, q6⟩
              | brk =>
                obtain ⟨σ6, H6, S6, q6⟩ := hsp
                exact ⟨_, _, back S6, q6⟩
              | cont =>
                obtain ⟨σ6, H6, S6, q6⟩ := hsp
                exact ⟨_, _, back S6, q6⟩
              | ret u =>
                obtain ⟨v6, σ6, H6, S6, r6, q6⟩ := hsp
                exact ⟨_, _, _, back S6, r6, q6⟩
          | some n =>
            cases i with
            | none => exact hn.elim
            | some i =>
              obtain ⟨hi, hln⟩ := hn
              have hloc : Loc X.env.scope n := .inl hln
              refine codeAny_handlers_suite_as ?_
              refine HandSPX.lands_againZ fl3 fun h4 fl4 up4 => ?_
              have S4 := track fl4 up4
              refine store_ok (X := X.suite a (X.pn ++ pins)) (v := .ref a) S4 hN hi hloc rfl (fun s5 S5 => ?_) (.inr hln)
              refine wpAny_mono ((hsu a (X.pn ++ pins)).run [] s5 _ _ _ S5 (hy a na)) (fun f s6 hsp => ?_) (fun _ _ z => False.elim z)
              have end_ : ∀ {σ6 : L2.St} {H6 : Hp} {Q : Shared → Prop}, Inv (X.suite a (X.pn ++ pins)) [] σ6 H6 s6 → (∀ s7, Inv X pins (σ6.set i none) H6 s7 → Q s7) →
                  wpAny (model X.prog X.w) X.A (do bindName X.env n .none; unbindBehindTheSuite X.env n pos') (fun _ s7 => Q s7) X.xe s6 := fun {σ6 H6 Q} S6 hq => gone_ok (back S6) hN hi hln hq
              cases f with
              | next =>
                obtain ⟨σ6, H6, S6, q6⟩ := hsp
                exact end_ S6 fun s7 J7 => ⟨_, _, J7, q6⟩
              | brk =>
                obtain ⟨σ6, H6, S6, q6⟩ := hsp
                exact end_ S6 fun s7 J7 => ⟨_, _, J7, q6⟩
              | cont =>
                obtain ⟨σ6, H6, S6, q6⟩ := hsp
                exact end_ S6 fun s7 J7 => ⟨_, _, J7, q6⟩
              | ret u =>
                obtain ⟨v6, σ6, H6, S6, r6, q6⟩ := hsp
                exact end_ S6 fun s7 J7 => ⟨_, _, _, J7, r6, q6⟩
        | false =>
          show wpAny _ X.A (handleBy (.ref a) X.env hds2) _ _ _
          exact ih (hno rfl)
    exact go hh w
  · cases f with
    | next =>
      obtain ⟨σ', H', J', q⟩ := hsp
      exact wpAny_execs_nil ⟨σ', H', J'.ofTry ok, q⟩
    | brk =>
      obtain ⟨σ', H', J', q⟩ := hsp
      exact ⟨σ', H', J'.ofTry ok, q⟩
    | cont =>
      obtain ⟨σ', H', J', q⟩ := hsp
      exact ⟨σ', H', J'.ofTry ok, q⟩
    | ret u =>
      obtain ⟨v, σ', H', J', r, q⟩ := hsp
      exact ⟨v, σ', H', J'.ofTry ok, r, q⟩
end
end Mx

end

section
set_option Elab.async false
set_option linter.all false
set_option maxRecDepth 100000
set_option maxHeartbeats 8000000
/-! Statements: stores, raise. -/
namespace Mx
open PySem PySem.Spec PyProof.Rows L2

/-- no comprehension -/
def notComp : Expr → Bool
  | .ListComp _ _ _ _ => false
  | .SetComp _ _ _ _ => false
  | .DictComp _ _ _ _ _ => false
  | _ => true
theorem sw_none {e : Expr} (h : notComp e = true) (t : Option Expr) (l : Nat) (env : Env) : swapsWith e t l env = pure false := by
  cases e <;> first | rfl | cases h
theorem sw_comp {elt : Expr} {gs : List Comprehension} {scope : Scope} {p pos : Pos} {t : Str} {l : Nat} {env : Env} (hk : env.scope.kind = .function) : swapsWith (.ListComp elt gs scope p) (some (.Name t pos)) l env =
    pure (env.scope.names.lookup t == some .local && pos.line == p.line && !(scope.names.any fun (n, k) => n == t && (k == .local || k == .cell))) := by
  have hb : env.blockKind = .function := by unfold Env.blockKind; rw [hk]; rfl
  unfold swapsWith
  simp only [hb]
  rfl
theorem sw_sub {e o i : Expr} {p : Pos} {l : Nat} {env : Env} : swapsWith e (some (.Subscript o i p)) l env = pure false := by
  cases e <;> rfl

/-! ### names from the right -/
def setAll : L2.St → List Nat → List V → L2.St
  | σ, i :: is, v :: vs => setAll (σ.set i (some v)) is vs
  | σ, _, _ => σ
theorem setAll_set {i : Nat} {v : V} : ∀ {is : List Nat} {vs : List V} {σ : L2.St}, i ∉ is → setAll (σ.set i (some v)) is vs = (setAll σ is vs).set i (some v)
  | [], _, _, _ => by unfold setAll; rfl
  | j :: is, [], _, _ => by unfold setAll; rfl
  | j :: is, w :: vs, σ, h => by
    have h1 : i ≠ j := fun e => h (e ▸ List.mem_cons_self)
    have h2 : i ∉ is := fun q => h (List.mem_cons_of_mem _ q)
    show setAll ((σ.set i (some v)).set j (some w)) is vs = (setAll (σ.set j (some w)) is vs).set i (some v)
    rw [List.set_comm _ _ h1, setAll_set h2]
theorem setAll_snoc {i : Nat} {v : V} : ∀ {is : List Nat} {vs : List V} {σ : L2.St}, is.length = vs.length → setAll σ (is ++ [i]) (vs ++ [v]) = (setAll σ is vs).set i (some v)
  | [], [], _, _ => by unfold setAll; rfl
  | [], _ :: _, _, h => by cases h
  | _ :: _, [], _, h => by cases h
  | j :: is, w :: vs, σ, h => by
    show setAll (σ.set j (some w)) (is ++ [i]) (vs ++ [v]) = (setAll (σ.set j (some w)) is vs).set i (some v)
    exact setAll_snoc (by simpa using h)
theorem setAll_rev : ∀ {is : List Nat} {vs : List V} {σ : L2.St}, is.Nodup → is.length = vs.length → setAll σ is.reverse vs.reverse = setAll σ is vs
  | [], [], _, _, _ => rfl
  | [], _ :: _, _, _, h => by cases h
  | _ :: _, [], _, _, h => by cases h
  | i :: is, v :: vs, σ, nd, h => by
    rw [List.nodup_cons] at nd
    rw [List.reverse_cons, List.reverse_cons, setAll_snoc (by simpa using h), setAll_rev nd.2 (by simpa using h)]
    show _ = setAll (σ.set i (some v)) is vs
    rw [setAll_set nd.1]
def nmsOf : Ags → Option (List Nat)
  | .nil => some []
  | .cons (.nm i) gs => (nmsOf gs).map (i :: ·)
  | .cons (.tp _) _ => none
theorem bind_nms {K : Wr} {G : Hp} {ι : List Addr} {h : MH} : ∀ {gs : Ags} {is : List Nat} {xs : List PV} {ρ ρ' : Env'}, nmsOf gs = some is → bindGs gs xs ρ h = some ρ' → xs.length = is.length ∧ ∀ {σ : L2.St} {vs : List V}, SR K G ι ρ σ → RVs K G ι xs vs → SR K G ι ρ' (setAll σ is vs)
  | .nil, is, xs, ρ, ρ', e, b => by
    simp only [nmsOf, Option.some.injEq] at e
    subst e
    cases xs with
    | cons _ _ => simp [bindGs] at b
    | nil =>
      simp only [bindGs, Option.some.injEq] at b
      subst b
      refine ⟨rfl, fun S r => ?_⟩
      rw [r.nil_inv]
      exact S
  | .cons (.tp _) _, is, xs, ρ, ρ', e, b => by cases e
  | .cons (.nm i) gs, is, xs, ρ, ρ', e, b => by
    unfold nmsOf at e
    cases e1 : nmsOf gs with
    | none => rw [e1] at e; cases e
    | some js =>
      rw [e1] at e
      cases e
      cases xs with
      | nil => simp [bindGs] at b
      | cons x xs =>
        unfold bindGs at b
        split at b
        · rename_i ρ1 e2
          unfold bindG at e2
          split at e2
          · cases e2
            obtain ⟨q1, q2⟩ := bind_nms (K := K) (G := G) (ι := ι) e1 b
            refine ⟨by rw [List.length_cons, List.length_cons, q1], fun {σ vs} S r => ?_⟩
            obtain ⟨v, ws, rfl, r1, r2⟩ := r.cons_inv
            exact q2 (S.set r1) r2
          · cases e2
        · cases b
section
variable {X : Cx} {pins : List (Addr × Obj)} {σ : L2.St} {H : Hp} {s : Shared}
theorem store_all {Q : Unit → Shared → Prop} (hN : X.N.Nodup) : ∀ {ns : List Str} {is : List Nat} {vs : List V} {us : List Value} {σ : L2.St} {s : Shared}, Inv X pins σ H s → is.map (X.N[·]?) = ns.map some → (∀ n ∈ ns, X.env.scope.names.lookup n = some .local) → Vals vs us → vs.length = is.length →
    (∀ s', Inv X pins (setAll σ is vs) H s' → Q () s') → wpAny (model X.prog X.w) X.A (assignInOrder (ns.map fun n => bindName X.env n) us) Q X.xe s
  | [], [], vs, us, σ, s, I, _, _, r, hl, h => by
    cases vs with
    | cons _ _ => cases hl
    | nil =>
      cases r
      exact assignInOrder_nil (h s I)
  | [], _ :: _, _, _, _, _, _, e, _, _, _, _ => by cases e
  | _ :: _, [], _, _, _, _, _, e, _, _, _, _ => by cases e
  | n :: ns, i :: is, vs, us, σ, s, I, e, hl, r, hlen, h => by
    rw [List.map_cons, List.map_cons, List.cons.injEq] at e
    cases vs with
    | nil => cases hlen
    | cons v vs =>
      cases r with
      | cons r rr =>
        have hy := hl n List.mem_cons_self
        refine assignInOrder_cons (wpAny_bindName (store_ok I hN e.1 (.inl hy) r (fun s2 I2 => ?_) (.inr hy)))
        exact store_all hN I2 e.2 (fun m hm => hl m (List.mem_cons_of_mem _ hm)) rr (by simpa using hlen) h
def tSwap (K : PySem.W.Frag) (is : List Nat) (te : TE) : TS := fun D σ H => te σ H fun x H1 => ∃ a vs, x = .ref a ∧ SqT K H1 a vs ∧ vs.length = is.length ∧ D.nx (setAll σ is vs) H1
theorem ps_swap {ts : List Expr} {e : Expr} {k : Nat} {pt pos : Pos} {ns : List Str} {is : List Nat} {te : TE} (hc : X.calm = true) (hN : X.N.Nodup) (he : PE X e te) (hw : swappedStores [.Tuple ts k pt] e X.env = pure (some ns)) (hs : swapsWithSole [.Tuple ts k pt] e pos.line X.env = pure false)
    (hi : is.map (X.N[·]?) = ns.map some) (hl : ∀ n ∈ ns, X.env.scope.names.lookup n = some .local) (nd : is.Nodup) : PS X (.Assign [.Tuple ts k pt] e pos) (tSwap X.K is te) := by
  refine ⟨fun pins s σ H D I h => ?_⟩
  rw [exec_Assign_arm]
  refine wpAny_bind (wpAny_standAt ?_)
  rw [hs]
  refine wpAny_bind (wpAny_pure ?_)
  rw [if_neg (by decide)]
  refine wpAny_bind (thn (he.run pins s σ H _ I h) fun u s1 ⟨x, H1, I1, r1, a, vs, ex, hq, hlen, q⟩ => ?_)
  subst ex
  cases r1
  obtain ⟨its, rv, ht, hz⟩ := I1.tuple hq
  rw [hw]
  refine wpAny_bind (wpAny_pure ?_)
  have hnl : ns.length = is.length := by
    have := congrArg List.length hi
    simpa using this.symm
  have hsz : ns.length = its.toArray.size := by rw [List.size_toArray, ← rv.length, hlen, hnl]
  show wpAny (model X.prog X.w) X.A (do rule "assign.swapped-stores"; let items ← unpackItems (.ref a) ns.length none; assignInOrder (ns.reverse.map fun n => bindName X.env n) items.reverse; pure Flow.next) _ _ _
  rw [hsz]
  refine wpAny_bind (wpAny_rule (wpAny_bind (unpackItems_tuple (items := its.toArray) (I1.ok.hd hc) ht fun h' hx' => ?_)))
  have I2 := I1.kept (h' := h') (t' := s1.toks) fun b o e => hx' b o (Nat.ne_of_lt (Heap.lt_size e)) e
  refine wpAny_bind (store_all hN (ns := ns.reverse) (is := is.reverse) (vs := vs.reverse) I2 (by rw [List.map_reverse, List.map_reverse, hi]) (fun n hn => hl n (List.mem_reverse.mp hn)) ?_ (by rw [List.length_reverse, List.length_reverse, hlen]) fun s3 I3 => wpAny_pure ?_)
  · have : ∀ {vs : List V} {us : List Value}, Vals vs us → Vals vs.reverse us.reverse := by
      intro vs us r
      induction r with
      | nil => exact .nil
      | cons r _ ih =>
        rw [List.reverse_cons, List.reverse_cons]
        exact ih.append (.cons r .nil)
    simpa using this rv
  · rw [setAll_rev nd hlen.symm] at I3
    exact ⟨_, H1, I3, q⟩
end
/-- how the stores of a written pair go -/
def isStarred : Expr → Bool
  | .Starred _ _ => true
  | _ => false
def nameOn (sc : Scope) (line : Nat) : Expr → Option Str
  | .Name id pos => if sc.names.lookup id == some .local && pos.line == line then some id else none
  | _ => none
def swK (sc : Scope) (ts vs : List Expr) : Option (Option (List Str)) :=
  if (!(ts.length == 2 || ts.length == 3) || vs.length != ts.length) = true then some none
  else if vs.any isStarred = true then some none
  else
    let names := ts.filterMap (nameOn sc ((ts.head?.map (·.pos.line)).getD 0))
    if (names.length != ts.length || names.eraseDups.length != names.length) = true then some none
    else if vs.all (foldedForSure 8) = true then some none
    else if vs.all (constantsAlone 8) = true then none
    else some (some names)
theorem swK_ok {ts vs : List Expr} {k k2 : Nat} {p p2 : Pos} {env : Env} {r : Option (List Str)} (hk : env.scope.kind = .function) (h : swK env.scope ts vs = some r) : swappedStores [.Tuple ts k p] (.Tuple vs k2 p2) env = pure r := by
  have hb : (env.blockKind != .function) = false := by unfold Env.blockKind; rw [hk]; rfl
  have e1 : (vs.any fun | .Starred .. => true | _ => false) = vs.any isStarred := rfl
  unfold swappedStores
  unfold swK at h
  dsimp only
  simp only [hb, Bool.or_false]
  split at h
  · rename_i c
    cases h
    rw [if_pos c]
  · rename_i c
    rw [if_neg c]
    split at h
    · rename_i c2
      cases h
      rw [if_pos (by exact c2)]
    · rename_i c2
      rw [if_neg (by exact c2)]
      dsimp only at h
      split at h
      · rename_i c3
        cases h
        rw [if_pos (by exact c3)]
      · rename_i c3
        rw [if_neg (by exact c3)]
        split at h
        · rename_i c4
          cases h
          rw [if_pos c4]
        · rename_i c4
          rw [if_neg c4]
          split at h
          · cases h
          · rename_i c5
            cases h
            rw [if_neg c5]
            rfl
def isTup : Expr → Bool
  | .Tuple _ _ _ => true
  | _ => false
theorem swN_ok {t : Expr} {e : Expr} {env : Env} (h : isTup e = false) : swappedStores [t] e env = pure none := by
  cases e <;> first | cases h | skip
  all_goals cases t <;> rfl
theorem swS_ok {o i : Expr} {p : Pos} {e : Expr} {env : Env} : swappedStores [.Subscript o i p] e env = pure none := by
  cases e <;> rfl

/-! ### raise -/
/-- what C's __init__ does -/
def spInit (K : PySem.W.Frag) : Sp := fun vs H Q _ => ∃ (a C : Addr) (y : V), vs = [.ref a, y] ∧ OexC K C ∧ PySem.W.findIn K (.ref C) "value" = some none ∧ H a = some (exo a C none) ∧
  ∀ dx, H dx = none → dx ≠ a → Q .non (upd (upd H dx (exd dx [(("value" : Str), y)])) a (exo a C (some dx)))
theorem passN {X : Cx} : Passes (L2.CX X.prog X.w) X (fun _ _ _ => False) := fun _ _ _ _ _ _ _ h => by
  obtain ⟨_, _, _, _, _, _, _, _, _, _, _, _, z⟩ := h
  exact z.elim
/-- a class that may be raised -/
def RaisK (X : Cx) (c : Str) : Prop := ∃ (C fI : Addr) (k : Nat) (fd : FuncData), X.mg c = some (.ref C) ∧ OexC X.K C ∧ PySem.W.findIn X.K (.ref C) "value" = some none ∧ PySem.W.findIn X.K (.ref C) "__init__" = some (some (.ref fI)) ∧ PySem.W.typeIn X.K (.ref fI) = some (.type "function") ∧
  FnOk X.prog X.w X.K X.mg X.base (L2.CX X.prog X.w) k fI fd ["self", "value"] (spInit X.K) ∧ Room (k + 1) X.A ∧ Binds X.K fd ["self", "value"] []
theorem me_raise {X : Cx} {exc : List Str} {W : WX} {c : Str} {a : Expr} {p p2 pos : Pos} {r : Env' → MH → Res PV} (hc : X.calm = true) (tk : Takes X W) (hx : c ∈ exc) (hR : RaisK X c) (hg : Gl X c) (hdb : (c == ("__debug__" : Str)) = false) (ha : PE X a (tE exc (kx X) W r)) (hst : starEach [a] X.env = [(false, eval a X.env)]) :
    PS X (.Raise (some (.Call (.Name c p) [a] [] p2)) none pos) (tS exc (kx X) W fun ρ h => (r ρ h).out ρ fun x h => .exn c x ρ h) := by
  obtain ⟨C, fI, k, fd, h1, h2, h3, h4, h5, h6, h7, h8⟩ := hR
  refine (ps_raise hc tk (pmk_oex (dvs := []) (ds := []) h2 h4 h5 h6 h7 h8 .nil passN hg h1 (pa_cons ha pa_nil (by rw [hst]; rfl)) hdb (by rw [hst]; rfl) rfl)).weak fun D σ H q => ?_
  obtain ⟨Z, G, ι, h, ρ, R, S, p⟩ := q
  refine ⟨Z, G, ι, h, ρ, R, S, p.out S fun x h1' G1 ι1 H1 vx n1 rx p1 => ?_⟩
  refine ⟨by simp, fun a0 hn0 => ?_⟩
  refine ⟨a0, C, vx, rfl, h2, h3, upd_same, fun dx hdx hne => ⟨rfl, dx, [(("value" : Str), vx)], upd_same, ?_, ?_, ?_⟩⟩
  · rw [upd_ne hne, upd_same]
  · rw [upd_ne hne] at hdx; exact hdx
  · rw [upd_ne hne] at hdx
    have e : upd (del (upd (upd (upd H1 a0 (exo a0 C none)) dx (exd dx [(("value" : Str), vx)])) a0 (exo a0 C (some dx))) a0) dx (.xd [(("value" : Str), vx)]) = upd H1 dx (.xd [(("value" : Str), vx)]) := by
      funext b
      by_cases hb : b = dx
      · rw [hb, upd_same, upd_same]
      · rw [upd_ne hb, upd_ne hb]
        by_cases hb2 : b = a0
        · rw [hb2, del_same, hn0]
        · rw [del_ne hb2, upd_ne hb2, upd_ne hb, upd_ne hb2]
    rw [e]
    have n2 : Nx (kx X) Z G1 ι1 H1 (upd G1 dx (.xd [(("value" : Str), vx)])) ι1 h1' (upd H1 dx (.xd [(("value" : Str), vx)])) :=
      ⟨same_upd (n1.hr.gnone hdx), Pre.refl _, n1.hr.laid hdx, fun z hz => upd_ne fun e => n1.hr.freshZ hdx (e ▸ hz)⟩
    exact p1.2 _ _ _ σ C dx vx n2 (S.mono (n1.same.trans n2.same) (n1.pre.trans n2.pre)) h1 upd_same (rx.mono n2.same n2.pre)
end Mx

end

section
set_option Elab.async false
set_option linter.all false
set_option maxRecDepth 100000
set_option maxHeartbeats 8000000
/-! What the checker takes runs as the small language says: statements. -/
namespace Mx
open PySem PySem.Spec PyProof.Rows L2

abbrev Lk.at (L : Lk) (hot : Bool) : Lk := { L with hot := hot }
section
variable (L : Lk) (N : List Str)
/-- how a written tuple is stored -/
def swOk (sc : Scope) (gs : Ags) (ts : List Expr) : Expr → Bool
  | .Tuple vs _ _ => match swK sc ts vs with
    | some none => true
    | some (some ns) => match nmsOf gs with
      | some is => decide (is.map (N[·]?) = ns.map some) && ns.all (onlyLocB sc) && decide is.Nodup
      | none => false
    | none => false
  | _ => true
def hdName (sc : Scope) : Option Nat → Option Str → Bool
  | none, none => true
  | some i, some y => decide (N[i]? = some y) && onlyLocB sc y
  | _, _ => false
mutual
def mS (sc : Scope) (hot : Bool) : As → Stmt → Bool
  | .ex e, .Expr x _ => mE (L.at hot) N sc e x && notComp x
  | .set (.nm i) e, .Assign [.Name x _] v _ => decide (N[i]? = some x) && locB sc x && mE (L.at hot) N sc e v
  | .set (.tp gs) e, .Assign [.Tuple ts _ _] v _ => !hot && mGs (L.at hot) N (fun _ => true) sc gs ts && mE (L.at hot) N sc e v && notComp v && swOk N sc gs ts v
  | .put o i e, .Assign [.Subscript ox ix _] v _ => mE (L.at hot) N sc o ox && mE (L.at hot) N sc i ix && mE (L.at hot) N sc e v
  | .ite c a b, .If x p q _ => mE (L.at hot) N sc c x && mSs sc hot a p && mSs sc hot b q
  | .whl c b, .While x p [] _ => !hot && mE (L.at hot) N sc c x && mSs sc hot b p
  | .for g it b, .For tg iter p [] _ => !hot && mG (L.at hot) N (fun _ => true) sc g tg && mI (L.at hot) N sc tg it iter && mSs sc hot b p
  | .ret e, .Return (some x) _ => mE (L.at hot) N sc e x
  | .retN, .Return none _ => true
  | .rais c e false, .Raise (some (.Call (.Name x _) [a] [] _)) none _ => !hot && decide (c = x) && gloB sc x && L.exc.contains c && mE (L.at hot) N sc e a
  | .try b hs, .Try body (h :: hds) [] [] _ => !hot && mSs sc hot b body && mHs sc hs (h :: hds)
  | .brk, .Break _ => true
  | .cnt, .Continue _ => true
  | .pas, .Pass _ => true
  | _, _ => false
def mSs (sc : Scope) (hot : Bool) : Ass → List Stmt → Bool
  | .nil, [] => true
  | .cons s ss, x :: xs => mS sc hot s x && mSs sc hot ss xs
  | _, _ => false
def mHs (sc : Scope) : Ahs → List ExceptHandler → Bool
  | .nil, [] => true
  | .cons t n b hs, .ExceptHandler (some (.Name x _)) nm (st :: suite) _ :: hds => decide (t = x) && gloB sc x && L.exc.contains t && hdName N sc n nm && mSs sc true b (st :: suite) && mHs sc hs hds
  | _, _ => false
end
end
/-- what holds of a def's context -/
structure Cs (L : Lk) (P : Pg) (cl : Calls) (W : WX) (X : Cx) : Prop where
  g : Cg L P cl W X
  kind : X.env.scope.kind = .function
  fn : ∀ x, X.fn x = true
  po : L.hot = false → PassesOwn (model X.prog X.w) X.A X.env X.xe
  stk : L.hot = false → X.stack = X.env :: X.outer
  frm : X.env.frame = some X.env.locals
  rs : L.hot = false → ∀ c ∈ L.exc, RaisK X c ∧ c ∈ P.exc
  hd : ∀ t ∈ L.exc, ∃ T, X.mg t = some (.ref T) ∧ ∀ c ∈ P.exc, ∀ C, X.mg c = some (.ref C) → PySem.W.exmOne X.K (.ref C) (.ref T) = some (subT P.exc c t)
/-- o[i] = v: a list, a dict -/
def rSetAny : TSet := fun o i v H Q => rSetL o i v H Q ∨ ∃ a H', o = .ref a ∧ DPut H a i v H' ∧ Q H'
theorem set_any {X : Cx} (hu : X.A.units + 64 < cLine) : PSet X rSetAny := by
  intro pins s σ H o i v ov iv vv Q I r1 r2 r3 h
  rcases h with h | ⟨a, H', rfl, hd, q⟩
  · exact set_list pins s σ H o i v ov iv vv Q I r1 r2 r3 h
  · obtain rfl : ov = Value.ref a := r1
    exact d_setItem (Nat.lt_of_le_of_lt (by omega) hu) I hd r2 r3 fun s' I' => ⟨H', I', q⟩
theorem put_any {K : Wr} {Z : List Addr} {G : Hp} {ι : List Addr} {h h' : MH} {H : Hp} {o i x : PV} {vo vi vx : V} (R : HR K Z G ι h H) (ro : RV K G ι o vo) (ri : RV K G ι i vi) (rx : RV K G ι x vx) (e : putop o i x h = some h') {Q : Hp → Prop} (p : ∀ G' ι' H', Nx K Z G ι H G' ι' h' H' → Q H') : rSetAny vo vi vx H Q := by
  unfold putop at e
  split at e
  · rename_i n kk
    split at e
    · rename_i xs ex
      split at e
      · rename_i j ej
        cases e
        obtain ⟨ad, vs, rfl, hn, hH, rvs⟩ := ref_lst R ro ex
        exact .inl ⟨ad, vs, kk, j, rfl, ri.int_inv, hH, by rw [← rvs.length]; exact ej, put_lst R hn hH (rvs.set rx j) p⟩
      · cases e
    · rename_i kvs ex
      split at e
      · rename_i hz
        cases e
        obtain ⟨ad, qs, rfl, hn, hH, rk⟩ := ref_dic R ro ex
        exact .inr ⟨ad, _, rfl, .inl ⟨qs, .inl kk, hH, keyV ri rfl, by rw [← rk.length]; exact hz, rfl⟩, put_dic R hn hH (rk.put (.inl kk) rx) p⟩
      · cases e
    · cases e
  · rename_i n kk
    split at e
    · rename_i kvs ex
      split at e
      · rename_i hz
        cases e
        obtain ⟨ad, qs, rfl, hn, hH, rk⟩ := ref_dic R ro ex
        exact .inr ⟨ad, _, rfl, .inl ⟨qs, .inr kk, hH, keyV ri rfl, by rw [← rk.length]; exact hz, rfl⟩, put_dic R hn hH (rk.put (.inr kk) rx) p⟩
      · cases e
    · cases e
  · cases e
section
variable {L : Lk} {P : Pg} {cl : Calls}
theorem Cs.tr {W W' : WX} {X : Cx} (C : Cs (L.at false) P cl W X) (pn : List (Addr × Obj)) (xe : Value → Shared → Prop) (tk : Takes (X.tr pn xe) W') (po : PassesOwn (model X.prog X.w) X.A X.env xe) : Cs (L.at false) P cl W' (X.tr pn xe) :=
  ⟨⟨C.g.nd, C.g.calm, C.g.un, C.g.un5, C.g.free, C.g.gcd, C.g.con, tk, C.g.fns, C.g.fnd, C.g.xf⟩, C.kind, C.fn, fun _ => po, C.stk, C.frm, C.rs, C.hd⟩
theorem Cs.suite {W : WX} {X : Cx} (C : Cs (L.at false) P cl W X) (a : Addr) (pn : List (Addr × Obj)) : Cs (L.at true) P cl W0 (X.suite a pn) :=
  ⟨⟨C.g.nd, fun h => (by cases h), C.g.un, C.g.un5, C.g.free, C.g.gcd, C.g.con, takesN, fun h => (by cases h), C.g.fnd, C.g.xf⟩, C.kind, C.fn, fun h => (by cases h), fun h => (by cases h), C.frm, fun h => (by cases h), C.hd⟩
section
variable {W : WX} {X : Cx}
theorem tSet_weak {exc : List Str} {K : Wr} {i : Nat} {r : Env' → MH → Res PV} {D : Ends} {σ : L2.St} {H : Hp} (q : tS exc K W (fun ρ h => (r ρ h).out ρ fun x h => match bindG (.nm i) x ρ h with
    | some ρ' => .nx ρ' h
    | none => .stuck) D σ H) : tE exc K W r σ H (fun x H1 => gName i x σ H1 D.nx) := by
  obtain ⟨Z, G, ι, h, ρ, R, S, p⟩ := q
  refine ⟨Z, G, ι, h, ρ, R, S, p.out S fun x h1 G1 ι1 H1 vx n1 rx p1 => ?_⟩
  unfold bindG at p1
  split at p1
  · rename_i ρ' e
    split at e
    · cases e
      exact OP.nx_here p1 n1.hr ((S.mono n1.same n1.pre).set rx)
    · cases e
  · exact p1.elim
theorem sSetC {i : Nat} {a : Ae} {hot : Bool} (C : Cs (L.at hot) P cl W X) {x : Str} {v : Expr} {p pos : Pos} (hN : X.N[i]? = some x) (hl : locB X.env.scope x = true) (hm : mE (L.at hot) X.N X.env.scope a v = true) :
    PS X (.Assign [.Name x p] v pos) (tS P.exc (kx X) W fun ρ h => (ev P cl a ρ h).out ρ fun x h => match bindG (.nm i) x ρ h with
      | some ρ' => .nx ρ' h
      | none => .stuck) := by
  by_cases hs : swapsWith v (some (.Name x p)) pos.line X.env = pure false
  · exact (ps_set C.g.nd hN (loc_of hl) (sX a C.g hm).1 hs (.inl (C.fn x))).weak fun D σ H q => tSet_weak q
  · cases v <;> try (exact absurd (sw_none rfl _ _ _) hs)
    · rename_i elt gens scope cp
      have e := sw_comp (elt := elt) (gs := gens) (scope := scope) (p := cp) (pos := p) (t := x) (l := pos.line) C.kind
      cases hb : (X.env.scope.names.lookup x == some .local && p.line == cp.line && !(scope.names.any fun (n, k) => n == x && (k == .local || k == .cell))) with
      | false => rw [hb] at e; exact absurd e hs
      | true =>
        rw [hb] at e
        have hyl : X.env.scope.names.lookup x = some .local := by
          simp only [Bool.and_eq_true, beq_iff_eq] at hb
          exact hb.1.1
        cases a <;> try (cases hm; done)
        rename_i r ee g it ifs own
        rcases gens with _ | ⟨⟨tg, iter, fs, asy⟩, _ | _⟩
        · cases hm
        · by_cases hz : asy = 0
          · subst hz
            simp only [mE, Bool.and_eq_true, decide_eq_true_eq, Bool.not_eq_true'] at hm
            obtain ⟨⟨⟨⟨⟨⟨h0, h1⟩, h2⟩, h3⟩, h4⟩, h5⟩, h6⟩ := hm
            have hc := C.g.calm h0
            refine (ps_setLc (wi := tI P.exc (kx X) W (evi P cl it)) (g := tG (kx X) g) (tt := tT P.exc (kx X) W0 (evIfs P cl ifs)) (te := tE P.exc (kx X) W0 (ev P cl ee)) hc C.g.nd hN hyl e (sI (tg := tg) it C.g h3).1 (blkOk_by h1) (fun s H C' cls fp => ?_) (fun s H C' cls fp => ?_) (fun s H C' cls fp => ?_) (sI (tg := tg) it C.g h3).2).weak fun D σ H q => ?_
            · exact sG (X := X.blk s H scope (compEnvC scope cls C' X.env) fp) hc C.g.nd (fun x hx => hx) h4
            · exact sIfs ifs (C.g.blk s H scope (compEnvC scope cls C' X.env) fp) h5
            · exact (sX ee (C.g.blk s H scope (compEnvC scope cls C' X.env) fp) h6).1
            · exact tLc_weak h2 (tSet_weak q)
          · exact absurd hm (by simp [mE, hz])
        · exact absurd hm (by simp [mE])
    · cases a <;> cases hm
    · cases a <;> cases hm
theorem sSetT {gs : Ags} {a : Ae} (C : Cs (L.at false) P cl W X) {ts : List Expr} {v : Expr} {k : Nat} {p pos : Pos} (h1 : mGs (L.at false) X.N (fun _ => true) X.env.scope gs ts = true) (hm : mE (L.at false) X.N X.env.scope a v = true) (h3 : notComp v = true) (h4 : swOk X.N X.env.scope gs ts v = true) :
    PS X (.Assign [.Tuple ts k p] v pos) (tS P.exc (kx X) W fun ρ h => (ev P cl a ρ h).out ρ fun x h => match bindG (.tp gs) x ρ h with
      | some ρ' => .nx ρ' h
      | none => .stuck) := by
  have he := (sX a C.g hm).1
  have hsw : swapsWithSole [.Tuple ts k p] v pos.line X.env = pure false := (show swapsWith v (some (.Tuple ts k p)) pos.line X.env = pure false from sw_none h3 _ _ _)
  have plain : swappedStores [.Tuple ts k p] v X.env = pure none → PS X (.Assign [.Tuple ts k p] v pos) (tS P.exc (kx X) W fun ρ h => (ev P cl a ρ h).out ρ fun x h => match bindG (.tp gs) x ρ h with
      | some ρ' => .nx ρ' h
      | none => .stuck) := fun hw => by
    have hg : PG X (.Tuple ts k p) (tG (kx X) (.tp gs)) := sG (C.g.calm rfl) C.g.nd (fun x _ => C.fn x) (g := .tp gs) (L := L.at false) (show mG (L.at false) X.N (fun _ => true) X.env.scope (.tp gs) (.Tuple ts k p) = true from h1)
    refine (ps_asg he hg hsw hw).weak fun D σ H q => ?_
    obtain ⟨Z, G, ι, h, ρ, R, S, p⟩ := q
    refine ⟨Z, G, ι, h, ρ, R, S, p.out S fun x h1 G1 ι1 H1 vx n1 rx p1 => ?_⟩
    split at p1
    · rename_i ρ' e
      exact ⟨Z, G1, ι1, h1, ρ, x, ρ', n1.hr, S.mono n1.same n1.pre, rx, e, fun σ' S' _ _ => OP.nx_here p1 n1.hr S'⟩
    · exact p1.elim
  by_cases hv : isTup v = false
  · exact plain (swN_ok hv)
  · cases v <;> try (exact absurd rfl hv)
    rename_i vs k2 p2
    simp only [swOk] at h4
    split at h4
    · rename_i e
      exact plain (swK_ok C.kind e)
    · rename_i ns e
      split at h4
      · rename_i is ei
        simp only [Bool.and_eq_true, decide_eq_true_eq, List.all_eq_true] at h4
        obtain ⟨⟨q1, q2⟩, q3⟩ := h4
        refine (ps_swap (C.g.calm rfl) C.g.nd he (swK_ok C.kind e) hsw q1 (fun n hn => onlyLoc_of (q2 n hn)) q3).weak fun D σ H q => ?_
        obtain ⟨Z, G, ι, h, ρ, R, S, p⟩ := q
        refine ⟨Z, G, ι, h, ρ, R, S, p.out S fun x h1 G1 ι1 H1 vx n1 rx p1 => ?_⟩
        split at p1
        · rename_i ρ' eb
          unfold bindG at eb
          split at eb
          · rename_i ys
            obtain ⟨a, vv, rfl, hs, rvs⟩ := rx.tup_inv
            obtain ⟨b1, b2⟩ := bind_nms (K := kx X) (G := G1) (ι := ι1) ei eb
            exact ⟨a, vv, rfl, Same.seqT n1.hr.sub hs.sqT, by rw [← rvs.length, b1], OP.nx_here p1 n1.hr (b2 (S.mono n1.same n1.pre) rvs)⟩
          · cases eb
        · exact p1.elim
      · cases h4
    · cases h4
theorem sPut {o i e : Ae} {hot : Bool} (C : Cs (L.at hot) P cl W X) {ox ix v : Expr} {p pos : Pos} (h1 : mE (L.at hot) X.N X.env.scope o ox = true) (h2 : mE (L.at hot) X.N X.env.scope i ix = true) (h3 : mE (L.at hot) X.N X.env.scope e v = true) :
    PS X (.Assign [.Subscript ox ix p] v pos) (tS P.exc (kx X) W fun ρ h => (ev P cl e ρ h).out ρ fun x h => (ev P cl o ρ h).out ρ fun a h => (ev P cl i ρ h).out ρ fun k h => match putop a k x h with
      | some h => .nx ρ h
      | none => .stuck) := by
  have hslice := ok_slice (mE_ok h2)
  refine (ps_asg (sX e C.g h3).1 (pg_sub (sX o C.g h1).1 (sX i C.g h2).1 (set_any C.g.un) (fun v => by cases ix <;> first | rfl | cases hslice)) (show swapsWith v (some (.Subscript ox ix p)) pos.line X.env = pure false from sw_sub) swS_ok).weak fun D σ H q => ?_
  obtain ⟨Z, G, ι, h, ρ, R, S, p⟩ := q
  refine ⟨Z, G, ι, h, ρ, R, S, p.out S fun x h1 G1 ι1 H1 vx n1 rx p1 => ?_⟩
  have S1 := S.mono n1.same n1.pre
  refine ⟨Z, G1, ι1, h1, ρ, n1.hr, S1, p1.out S1 fun a h2 G2 ι2 H2 va n2 ra p2 => ?_⟩
  have S2 := S1.mono n2.same n2.pre
  refine ⟨Z, G2, ι2, h2, ρ, n2.hr, S2, p2.out S2 fun k h3 G3 ι3 H3 vk n3 rk p3 => ?_⟩
  have S3 := S2.mono n3.same n3.pre
  split at p3
  · rename_i h' eh
    exact put_any n3.hr (ra.mono n3.same n3.pre) rk (rx.mono (n2.same.trans n3.same) (n2.pre.trans n3.pre)) eh (Q := fun H' => D.nx σ H') fun G' ι' H' n4 => p3 G' ι' H' σ n4 (S3.mono n4.same n4.pre)
  · exact p3.elim
theorem tst_eq (c : Ae) : tst P cl c = truR (ev P cl c) := rfl
end
mutual
theorem sS : ∀ (a : As) {hot : Bool} {W : WX} {X : Cx} (C : Cs (L.at hot) P cl W X) {st : Stmt}, mS L X.N X.env.scope hot a st = true → PS X st (tS P.exc (kx X) W (run1 P cl a))
  | .ex e, hot, W, X, C, st, hm => by
    cases st <;> try (cases hm; done)
    simp only [mS, Bool.and_eq_true] at hm
    refine (ps_expr (sX e C.g hm.1).1 (sw_none hm.2 _ _ _)).weak fun D σ H q => ?_
    obtain ⟨Z, G, ι, h, ρ, R, S, p⟩ := q
    unfold run1 at p
    exact ⟨Z, G, ι, h, ρ, R, S, p.out S fun x h1 G1 ι1 H1 vx n1 rx p1 => OP.nx_here p1 n1.hr (S.mono n1.same n1.pre)⟩
  | .set g e, hot, W, X, C, st, hm => by
    cases st <;> try (cases g <;> cases hm; done)
    rename_i tgs v pos
    rcases tgs with _ | ⟨tg, _ | _⟩ <;> try (cases g <;> cases hm; done)
    · cases g with
      | nm i =>
        cases tg <;> try (cases hm; done)
        simp only [mS, Bool.and_eq_true, decide_eq_true_eq] at hm
        exact sSetC C hm.1.1 hm.1.2 hm.2
      | tp gs =>
        cases tg <;> try (cases hm; done)
        simp only [mS, Bool.and_eq_true, Bool.not_eq_true'] at hm
        obtain ⟨⟨⟨⟨rfl, h1⟩, h2⟩, h3⟩, h4⟩ := hm
        exact sSetT C h1 h2 h3 h4
    · cases g <;> (cases tg <;> cases hm)
  | .put o i e, hot, W, X, C, st, hm => by
    cases st <;> try (cases hm; done)
    rename_i tgs v pos
    rcases tgs with _ | ⟨tg, _ | _⟩ <;> try (cases hm; done)
    · cases tg <;> try (cases hm; done)
      simp only [mS, Bool.and_eq_true] at hm
      exact sPut C hm.1.1 hm.1.2 hm.2
    · cases tg <;> cases hm
  | .aug _ _ _, hot, W, X, C, st, hm => by cases hm
  | .augs _ _ _ _, hot, W, X, C, st, hm => by cases hm
  | .ite c a b, hot, W, X, C, st, hm => by
    cases st <;> try (cases hm; done)
    simp only [mS, Bool.and_eq_true] at hm
    refine (ps_if (sX c C.g hm.1.1).2 (sSs a C hm.1.2) (sSs b C hm.2)).weak fun D σ H q => ?_
    obtain ⟨Z, G, ι, h, ρ, R, S, p⟩ := q
    unfold run1 at p
    refine ⟨Z, G, ι, h, ρ, R, S, p.out S fun t h1 G1 ι1 H1 t' n1 et p1 => ?_⟩
    cases et
    cases t with
    | true => exact ⟨Z, G1, ι1, h1, ρ, n1.hr, S.mono n1.same n1.pre, p1⟩
    | false => exact ⟨Z, G1, ι1, h1, ρ, n1.hr, S.mono n1.same n1.pre, p1⟩
  | .whl c b, hot, W, X, C, st, hm => by
    cases st <;> try (cases hm; done)
    rename_i x bd els pos
    cases els with
    | cons _ _ => cases hm
    | nil =>
      simp only [mS, Bool.and_eq_true, Bool.not_eq_true'] at hm
      obtain ⟨⟨rfl, h1⟩, h2⟩ := hm
      refine (ps_while (C.po rfl) (sX c C.g h1).2 (sSs b C h2)).weak fun D σ H q => ?_
      obtain ⟨Z, G, ι, h, ρ, R, S, p⟩ := q
      unfold run1 whlE at p
      split at p
      · rename_i ex
        refine ⟨fun m σ H' => ∃ G2 ι2 h2 ρ2, HR (kx X) Z G2 ι2 h2 H' ∧ SR (kx X) G2 ι2 ρ2 σ ∧ OP P.exc (kx X) W Z G2 ι2 H' (whlN (tst P cl c) (runs P cl b) m ρ2 h2) D, ⟨_, G, ι, h, ρ, R, S, p⟩, ?_⟩
        rintro m σ H ⟨G2, ι2, h2, ρ2, R2, S2, p2⟩
        cases m with
        | zero => exact p2.elim
        | succ m =>
          unfold whlN at p2
          refine ⟨Z, G2, ι2, h2, ρ2, R2, S2, p2.out S2 fun t h3 G3 ι3 H3 t' n3 et p3 => ?_⟩
          cases et
          have S3 := S2.mono n3.same n3.pre
          cases t with
          | false => exact OP.nx_here p3 n3.hr S3
          | true =>
            refine ⟨fun σ' H' => ∃ G2 ι2 h2 ρ2, HR (kx X) Z G2 ι2 h2 H' ∧ SR (kx X) G2 ι2 ρ2 σ' ∧ OP P.exc (kx X) W Z G2 ι2 H' (whlN (tst P cl c) (runs P cl b) m ρ2 h2) D, fun σ' H' w => ⟨m, Nat.lt_succ_self _, w⟩, Z, G3, ι3, h3, ρ2, n3.hr, S3, ?_⟩
            exact OP.turn (o := runs P cl b ρ2 h3) p3 fun ρ4 h4 G4 ι4 H4 σ4 n4 S4 p4 => ⟨G4, ι4, h4, ρ4, n4.hr, S4, p4⟩
      · exact p.elim
  | .for g it b, hot, W, X, C, st, hm => by
    cases st <;> try (cases hm; done)
    rename_i tg iter bd els pos
    cases els with
    | cons _ _ => cases hm
    | nil =>
      simp only [mS, Bool.and_eq_true, Bool.not_eq_true'] at hm
      obtain ⟨⟨⟨rfl, h1⟩, h2⟩, h3⟩ := hm
      have hc := C.g.calm rfl
      have hg : PG X tg (tG (kx X) g) := sG hc C.g.nd (fun x _ => C.fn x) h1
      refine (ps_for (C.po rfl) hc (sI (tg := tg) it C.g h2).1 hg (sSs b C h3) (sI (tg := tg) it C.g h2).2).weak fun D σ H q => ?_
      obtain ⟨Z, G, ι, h, ρ, R, S, p⟩ := q
      unfold run1 at p
      refine ⟨Z, G, ι, h, ρ, R, S, p.out S fun s h1 G1 ι1 H1 J n1 hJ p1 => ?_⟩
      generalize hbody : (fun (x : PV) (ρ : Env') (h : MH) => match bindG g x ρ h with
        | some ρ' => runs P cl b ρ' h
        | none => Out.stuck) = body at p1
      refine ⟨fun i m σ H' => m = s.2.length - i ∧ i ≤ s.2.length ∧ ∃ G2 ι2 h2 ρ2, Up G1 G2 ∧ Pre ι1 ι2 ∧ HR (kx X) Z G2 ι2 h2 H' ∧ SR (kx X) G2 ι2 ρ2 σ ∧ OP P.exc (kx X) W Z G2 ι2 H' (forL body s.1 (s.2.drop i) ρ2 h2) D,
        ⟨_, rfl, Nat.zero_le _, G1, ι1, h1, ρ, Up.refl _, Pre.refl _, n1.hr, S.mono n1.same n1.pre, p1⟩, ?_⟩
      rintro i m σ H2 ⟨rfl, hi, G2, ι2, h2, ρ2, s2, pr2, R2, S2, p2⟩
      by_cases hlt : i < s.2.length
      · have ex : s.2[i]? = some s.2[i] := List.getElem?_eq_getElem hlt
        rw [List.drop_eq_getElem_cons hlt] at p2
        unfold forL at p2
        split at p2
        · rename_i hchk
          refine .inr ⟨hJ.go Z G2 ι2 h2 H2 i s2 pr2 R2 hchk hlt, fun σ' H' => ∃ G2 ι2 h2 ρ2, Up G1 G2 ∧ Pre ι1 ι2 ∧ HR (kx X) Z G2 ι2 h2 H' ∧ SR (kx X) G2 ι2 ρ2 σ' ∧ OP P.exc (kx X) W Z G2 ι2 H' (forL body s.1 (s.2.drop (i + 1)) ρ2 h2) D,
            fun σ' H' w => ⟨s.2.length - (i + 1), by omega, rfl, hlt, w⟩, fun xv H3 hy => ?_⟩
          obtain ⟨G3, ι3, n3, rx⟩ := hJ.yld Z G2 ι2 h2 H2 i xv H3 _ s2 pr2 R2 hchk ex hy
          have S3 := S2.mono n3.same n3.pre
          have p3 := p2.later n3
          rw [← hbody] at p3
          dsimp only at p3
          cases hb : bindG g s.2[i] ρ2 h2 with
          | none => rw [hb] at p3; exact p3.elim
          | some ρ' =>
            rw [hb] at p3
            refine ⟨Z, G3, ι3, h2, ρ2, s.2[i], ρ', n3.hr, S3, rx, hb, fun σ' S' _ _ => ⟨Z, G3, ι3, h2, ρ', n3.hr, S', ?_⟩⟩
            rw [hbody] at p3
            exact OP.turn (o := runs P cl b ρ' h2) p3 fun ρ4 h4 G4 ι4 H4 σ4 n4 S4 p4 => ⟨G4, ι4, h4, ρ4, s2.trans (n3.same.trans n4.same), pr2.trans (n3.pre.trans n4.pre), n4.hr, S4, p4⟩
        · exact p2.elim
      · have e : s.2.drop i = [] := List.drop_eq_nil_of_le (by omega)
        rw [e] at p2
        unfold forL at p2
        split at p2
        · rename_i hchk
          exact .inl ⟨hJ.stop Z G2 ι2 h2 H2 i s2 pr2 R2 hchk (by omega), OP.nx_here p2 R2 S2⟩
        · exact p2.elim
  | .ret e, hot, W, X, C, st, hm => by
    cases st <;> try (cases hm; done)
    rename_i x pos
    cases x with
    | none => cases hm
    | some x =>
      refine (ps_ret (sX e C.g (show mE (L.at hot) X.N X.env.scope e x = true from hm)).1).weak fun D σ H q => ?_
      obtain ⟨Z, G, ι, h, ρ, R, S, p⟩ := q
      unfold run1 at p
      exact ⟨Z, G, ι, h, ρ, R, S, p.out S fun x h1 G1 ι1 H1 vx n1 rx p1 => p1 G1 ι1 H1 vx (Nx.refl n1.hr) rx⟩
  | .retN, hot, W, X, C, st, hm => by
    cases st <;> try (cases hm; done)
    rename_i x pos
    cases x with
    | some _ => cases hm
    | none =>
      refine ps_retN.weak fun D σ H q => ?_
      obtain ⟨Z, G, ι, h, ρ, R, S, p⟩ := q
      unfold run1 at p
      exact p G ι H .non (Nx.refl R) .non
  | .rais c e kw, hot, W, X, C, st, hm => by
    cases st <;> try (cases kw <;> cases hm; done)
    rename_i x cause pos
    cases kw with
    | true => cases hm
    | false =>
      cases x with
      | none => cases hm
      | some x =>
        cases x <;> try (cases hm; done)
        rename_i fn xs kws p2
        cases fn <;> try (cases hm; done)
        rename_i nm p
        rcases xs with _ | ⟨a, _ | _⟩ <;> try (cases hm; done)
        · cases kws with
          | cons _ _ => cases hm
          | nil => cases cause with
            | some _ => cases hm
            | none =>
              simp only [mS, Bool.and_eq_true, decide_eq_true_eq, Bool.not_eq_true'] at hm
              obtain ⟨⟨⟨⟨rfl, rfl⟩, h2⟩, h3⟩, h4⟩ := hm
              obtain ⟨r1, r2⟩ := C.rs rfl _ (List.contains_iff_mem.mp h3)
              exact me_raise (C.g.calm rfl) C.g.tk r2 r1 (gl_of h2).1 (gl_of h2).2 (sX e C.g h4).1 (ok_star (mE_ok h4) [] X.env)
  | .try b hs, hot, W, X, C, st, hm => by
    cases st <;> try (cases hm; done)
    rename_i body hds els fin pos
    cases hds with
    | nil => cases hm
    | cons h hds => cases els with
      | cons _ _ => cases hm
      | nil => cases fin with
        | cons _ _ => cases hm
        | nil =>
          simp only [mS, Bool.and_eq_true, Bool.not_eq_true'] at hm
          obtain ⟨⟨rfl, h1⟩, h2⟩ := hm
          obtain ⟨l, hk, hw⟩ := sHs hs C h2
          refine (ps_try_own (Wout := W) (tb := fun W' => tS P.exc (kx X) W' (runs P cl b)) (C.stk rfl) C.frm C.g.nd C.g.tk (fun W' pn xe tk po => sSs b (C.tr pn xe tk po) h1) hk).weak fun D σ H q => ?_
          obtain ⟨Z, G, ι, h, ρ, R, S, p⟩ := q
          unfold run1 at p
          refine ⟨Z, G, ι, h, ρ, R, S, ?_⟩
          cases e : runs P cl b ρ h with
          | nx ρ' h' => rw [e] at p; exact p
          | bk ρ' h' => rw [e] at p; exact p
          | ct ρ' h' => rw [e] at p; exact p
          | rt v h' => rw [e] at p; exact p
          | stuck => rw [e] at p; exact p
          | exn c v ρ' h' =>
            rw [e] at p
            dsimp only at p
            split at p
            · rename_i hc'
              have hc : c ∈ P.exc := List.contains_iff_mem.mp hc'
              refine ⟨hc, fun G' ι' H' σ' Cc dd x n' S' hm' hd' rx => ?_⟩
              exact hw Z D c v ρ' G' ι' h' H' σ' Cc dd x hc n'.hr S' hm' hd' rx (OP.later p n')
            · exact p.elim
  | .brk, hot, W, X, C, st, hm => by
    cases st <;> try (cases hm; done)
    refine ps_break.weak fun D σ H q => ?_
    obtain ⟨Z, G, ι, h, ρ, R, S, p⟩ := q
    exact p G ι H σ (Nx.refl R) S
  | .cnt, hot, W, X, C, st, hm => by
    cases st <;> try (cases hm; done)
    refine ps_continue.weak fun D σ H q => ?_
    obtain ⟨Z, G, ι, h, ρ, R, S, p⟩ := q
    exact p G ι H σ (Nx.refl R) S
  | .pas, hot, W, X, C, st, hm => by
    cases st <;> try (cases hm; done)
    refine ps_pass.weak fun D σ H q => ?_
    obtain ⟨Z, G, ι, h, ρ, R, S, p⟩ := q
    exact p G ι H σ (Nx.refl R) S
theorem sSs : ∀ (a : Ass) {hot : Bool} {W : WX} {X : Cx} (C : Cs (L.at hot) P cl W X) {st : List Stmt}, mSs L X.N X.env.scope hot a st = true → PSs X st (tS P.exc (kx X) W (runs P cl a))
  | .nil, hot, W, X, C, st, hm => by
    cases st with
    | cons _ _ => cases hm
    | nil =>
      refine pss_nil.weak fun D σ H q => ?_
      obtain ⟨Z, G, ι, h, ρ, R, S, p⟩ := q
      unfold runs at p
      exact OP.nx_here p R S
  | .cons s ss, hot, W, X, C, st, hm => by
    cases st with
    | nil => cases hm
    | cons x xs =>
      simp only [mSs, Bool.and_eq_true] at hm
      refine (pss_cons (sS s C hm.1) (sSs ss C hm.2)).weak fun D σ H q => ?_
      obtain ⟨Z, G, ι, h, ρ, R, S, p⟩ := q
      unfold runs at p
      exact ⟨Z, G, ι, h, ρ, R, S, p.seq fun ρ1 h1 G1 ι1 H1 σ1 n1 S1 p1 => ⟨Z, G1, ι1, h1, ρ1, n1.hr, S1, p1⟩⟩
theorem sHs : ∀ (a : Ahs) {W : WX} {X : Cx} (C : Cs (L.at false) P cl W X) {hds : List ExceptHandler}, mHs L X.N X.env.scope a hds = true → ∃ l, HdsK X hds l ∧
    ∀ (Z : List Addr) (D : Ends) (c : Str) (v : PV) (ρ : Env') (G : Hp) (ι : List Addr) (h : MH) (H : Hp) (σ : L2.St) (Cc dd : Addr) (x : V), c ∈ P.exc → HR (kx X) Z G ι h H → SR (kx X) G ι ρ σ → X.mg c = some (.ref Cc) → G dd = some (.xd [(("value" : Str), x)]) → RV (kx X) G ι v x →
      OP P.exc (kx X) W Z G ι H (runH P cl a c v ρ h) D → wHds X.K W D l (.ref Cc) (some dd) σ H
  | .nil, W, X, C, hds, hm => by
    cases hds with
    | cons _ _ => cases hm
    | nil =>
      refine ⟨[], .nil, fun Z D c v ρ G ι h H σ Cc dd x hc R S hm' hd' rx p => ?_⟩
      unfold runH at p
      exact p.2 G ι H σ Cc dd x (Nx.refl R) S hm' hd' rx
  | .cons t n b hs, W, X, C, hds, hm => by
    cases hds with
    | nil => cases hm
    | cons hh hds =>
      obtain ⟨ty, nm, suite, pos⟩ := hh
      cases ty with
      | none => cases hm
      | some ty =>
        cases ty <;> try (cases hm; done)
        rename_i xn xp
        cases suite with
        | nil => cases hm
        | cons st suite =>
          simp only [mHs, Bool.and_eq_true, decide_eq_true_eq] at hm
          obtain ⟨⟨⟨⟨⟨rfl, h1⟩, h2⟩, h3⟩, h4⟩, h5⟩ := hm
          obtain ⟨l, hk, hw⟩ := sHs hs C h5
          obtain ⟨T, hT, hex⟩ := C.hd _ (List.contains_iff_mem.mp h2)
          have hn : HdN X nm n := by
            cases n with
            | none => cases nm with
              | none => exact trivial
              | some _ => cases h3
            | some i => cases nm with
              | none => cases h3
              | some y =>
                simp only [hdName, Bool.and_eq_true, decide_eq_true_eq] at h3
                exact ⟨h3.1, onlyLoc_of h3.2⟩
          refine ⟨(.ref T, n, tS P.exc (kx X) W0 (runs P cl b)) :: l, .cons ⟨(gl_of h1).1, (gl_of h1).2, .inl hT⟩ hn (fun a pn => sSs b (C.suite a pn) h4) hk, fun Z D c v ρ G ι h H σ Cc dd x hc R S hm' hd' rx p => ?_⟩
          refine ⟨subT P.exc c t, hex c hc Cc hm', fun hb => ⟨Cc, dd, rfl, rfl, fun a ha => ?_⟩, fun hb => ?_⟩
          · have n1 : Nx (kx X) Z G ι H (upd G a (ExV Cc dd a)) ι h (upd H a (ExV Cc dd a)) := ⟨same_upd (R.gnone ha), Pre.refl _, R.laid ha, fun z hz => upd_ne fun e => R.freshZ ha (e ▸ hz)⟩
            have S1 := S.mono n1.same n1.pre
            have p1 := p.later n1
            unfold runH at p1
            rw [if_pos hb] at p1
            cases n with
            | none => exact ⟨Z, _, ι, h, ρ, n1.hr, S1, p1.noxW⟩
            | some i =>
              dsimp only at p1
              split at p1
              · exact ⟨Z, _, ι, h, ρ.set i (some (.exn c v)), n1.hr, S1.set (.exn hm' upd_same (n1.same.exact hd' fun _ z => nomatch z) (rx.mono n1.same n1.pre)), p1.gone⟩
              · exact p1.elim
          · refine hw Z D c v ρ G ι h H σ Cc dd x hc R S hm' hd' rx ?_
            unfold runH at p
            rw [if_neg (by rw [hb]; exact Bool.false_ne_true)] at p
            exact p
end
end
end Mx

end

section
set_option Elab.async false
set_option linter.all false
set_option maxRecDepth 100000
set_option maxHeartbeats 8000000
/-! Defs: what their bodies do is what they promise. -/
namespace Mx
open PySem PySem.Spec PyProof.Rows L2
section
variable {K : Wr} {Z : List Addr} {G G' : Hp} {ι ι' : List Addr} {h h' : MH} {H H' : Hp}
theorem leave_ok (R0 : HR K Z G ι h H) (n : Nx K Z G ι H G' ι' h' H') {v : PV} {x : V} (r : RV K G' ι' v x) :
    ∃ G'' ι'', Up G' G'' ∧ Nx K Z G ι H G'' ι'' (leave h v h').2 H' ∧ RV K G'' ι'' (leave h v h').1 x := by
  unfold leave
  split
  · rename_i hc
    obtain ⟨hb, ht, hl⟩ := hc
    obtain ⟨G'', s, et, R'', hg⟩ := R0.cutTo n.hr n.pre ht hl
    have cut : ∀ {v : PV} {x : V}, RV K G' ι' v x → below h.length v → RV K G'' ι v x := fun {v x} r q => by
      have := RV.cut (n := h.length) s r q
      rwa [et] at this
    refine ⟨G'', ι, s, ⟨n.same.trans s, Pre.refl _, R'', n.zz⟩, ?_⟩
    show RV K G'' ι (thaw h.length h' v) x
    cases v with
    | ref m =>
      have eth : thaw h.length h' (.ref m) = if m < h.length then .ref m else match h'[m]? with
          | some (.lst xs) => .lst xs
          | some (.dic ps) => .dic (ps.map (·.1)) (ps.map (·.2))
          | some (.fdic ps) => .dic (ps.map (·.1)) (ps.map (·.2))
          | _ => .ref m := rfl
      rw [eth] at hb ⊢
      split
      · rename_i hm
        rw [if_pos hm] at hb
        exact cut r hb
      · rename_i hm
        rw [if_neg hm] at hb
        have there : ∀ {a : Addr}, ι'[m]? = some a → a ∈ ι'.drop ι.length := fun {a} hn => by
          refine List.mem_of_getElem? (i := m - ι.length) ?_
          rw [List.getElem?_drop, R0.len]
          have : h.length + (m - h.length) = m := by omega
          rw [this]
          exact hn
        cases e : h'[m]? with
        | none =>
          rw [e] at hb
          exact cut r hb
        | some o =>
          cases o with
          | lst xs =>
            rw [e] at hb
            obtain ⟨a, vs, rfl, hn, hH, rvs⟩ := ref_lst n.hr r e
            have rc := RVs.cut (n := h.length) s rvs hb
            rw [et] at rc
            exact .lst (.inl ((hg a (there hn)).trans hH)) rc
          | dic ps =>
            rw [e] at hb
            obtain ⟨a, rfl, hn⟩ := r.ref_inv
            have ro := n.hr.obj m a _ hn e
            generalize hH : H' a = u at ro
            cases ro with
            | dic hk rs =>
              have rc := RVs.cut (n := h.length) s rs hb
              rw [et] at rc
              exact .dic (.inl ((hg a (there hn)).trans hH)) hk rc
          | fdic ps =>
            rw [e] at hb
            obtain ⟨a, rfl, hn⟩ := r.ref_inv
            have ro := n.hr.obj m a _ hn e
            generalize hH : H' a = u at ro
            cases ro with
            | fdic hk rs =>
              have rc := RVs.cut (n := h.length) s rs hb
              rw [et] at rc
              exact .dic (.inr ⟨_, (hg a (there hn)).trans hH⟩) hk rc
          | ins _ _ =>
            rw [e] at hb
            exact cut r hb
    | non => exact cut r hb
    | bl _ => exact cut r hb
    | int _ => exact cut r hb
    | str _ => exact cut r hb
    | tup _ => exact cut r hb
    | lst _ => exact cut r hb
    | dic _ _ => exact cut r hb
    | exn _ _ => exact cut r hb
    | fn _ => exact cut r hb
  · exact ⟨G', ι', Up.refl _, n, r⟩
/-- a body's end, as its caller sees it -/
theorem OP.exit {exc : List Str} {o : Out} {kp : Bool} {Q : VK} {E : XK} (R0 : HR K Z G ι h H) (p : RP exc K (rV K) Z G ι H (o.res kp h) Q E) : OP exc K (fun cls d _ H => E cls d H) Z G ι H o { nx := fun _ H' => Q .non H', rt := Q } := by
  cases kp with
  | true =>
    cases o with
    | nx ρ h' => exact fun G' ι' H' σ' n S => p G' ι' H' .non n .non
    | rt v h' => exact p
    | exn c v ρ h' => exact ⟨p.1, fun G' ι' H' σ' C dd x n S hm hd r => p.2 G' ι' H' C dd x n hm hd r⟩
    | bk ρ h' => exact p.elim
    | ct ρ h' => exact p.elim
    | stuck => exact p.elim
  | false =>
    cases o with
    | nx ρ h' =>
      intro G' ι' H' σ' n S
      obtain ⟨G'', ι'', s, n2, r2⟩ := leave_ok R0 n (.non : RV K G' ι' .non .non)
      exact p G'' ι'' H' .non n2 r2
    | rt v h' =>
      intro G' ι' H' x n r
      obtain ⟨G'', ι'', s, n2, r2⟩ := leave_ok R0 n r
      exact p G'' ι'' H' x n2 r2
    | exn c v ρ h' =>
      refine ⟨p.1, fun G' ι' H' σ' C dd x n S hm hd r => ?_⟩
      obtain ⟨G'', ι'', s, n2, r2⟩ := leave_ok R0 n r
      exact p.2 G'' ι'' H' C dd x n2 hm (s.exact hd fun _ z => nomatch z) r2
    | bk ρ h' => exact p.elim
    | ct ρ h' => exact p.elim
    | stuck => exact p.elim
end
theorem spF_len {exc : List Str} {K : Wr} {len : Nat} {b : List PV → MH → Res PV} {vs : List V} {H : Hp} {Q : VK} {E : XK} (h : spF exc K len b vs H Q E) : vs.length = len := by
  obtain ⟨Z, G, ι, h, as, hl, R, r, p⟩ := h
  rw [← r.length, hl]
section
variable {P : Program} {w : World} {K : PySem.W.Frag} {mg : Str → Option Value} {base : Heap}
/-- what holds at a level of calls -/
structure Cf (P : Program) (w : World) (K : PySem.W.Frag) (mg : Str → Option Value) (base : Heap) (L : Lk) (Pg : Pg) (cl : Calls) (k : Nat) : Prop where
  free : ∀ x ∈ L.fr, mg x = none
  gcd : L.gcd = true → mg "gcd" = some (.builtin "math.gcd")
  con : ∀ x ∈ L.cons, ∃ v u y, Pg.con x = some v ∧ mg x = some u ∧ RelV y u ∧ ∀ G ι, RV ⟨K, mg⟩ G ι v y
  fns : ∀ f ∈ L.fns, ∃ a fd ps b, DefK ⟨K, mg⟩ f a fd ps ∧ FnOk P w K mg base (L2.CX P w) k a fd ps (spF Pg.exc ⟨K, mg⟩ ps.length b) ∧
    ∀ xs ks ys h, cl f xs ks ys h = match argsOf ps xs ks ys with | none => .stuck | some as => b as h
  fnd : ∀ f, (Pg.fns f).isSome = true → f ∈ L.fns
  xf : ∀ c ∈ Pg.exc, ∀ C, mg c = some (.ref C) → XfC K C ∧ PySem.W.findIn K (.ref C) "value" = some none
  rs : ∀ c ∈ L.exc, c ∈ Pg.exc ∧ ∃ (C fI : Addr) (fd : FuncData), mg c = some (.ref C) ∧ OexC K C ∧ PySem.W.findIn K (.ref C) "value" = some none ∧ PySem.W.findIn K (.ref C) "__init__" = some (some (.ref fI)) ∧ PySem.W.typeIn K (.ref fI) = some (.type "function") ∧
    FnOk P w K mg base (L2.CX P w) 1 fI fd ["self", "value"] (spInit K) ∧ Binds K fd ["self", "value"] []
  hd : ∀ t ∈ L.exc, ∃ T, mg t = some (.ref T) ∧ ∀ c ∈ Pg.exc, ∀ C, mg c = some (.ref C) → PySem.W.exmOne K (.ref C) (.ref T) = some (subT Pg.exc c t)
theorem fn_level {L : Lk} {Pg : Pg} {cl : Calls} {k : Nat} {x qual : Str} {params : Arguments} {bd : List Stmt} {scope : Scope} {f : Addr} {fd : FuncData} {N ps : List Str} {d : Fn} (C : Cf P w K mg base L Pg cl k) (hk : 2 ≤ k)
    (F : FunD K x qual params bd scope [] [] f fd) (S : FnScope N ps scope) (hns : d.ns = N.length) (hm : mSs L N scope false d.body bd = true) :
    FnOk P w K mg base (L2.CX P w) (k + 1) f fd ps (spF Pg.exc ⟨K, mg⟩ ps.length (body Pg cl d)) := by
  refine F.ok S (fun vs H Q E h => spF_len h) fun cdv A outer s H vs Q E hr hsp => ?_
  generalize hX : cxOf (L2.CX P w) P w K mg base N qual scope f cdv A outer s H E = X
  have Cc : Cs (L.at false) Pg cl (fun cls d _ H => E cls d H) X := by
    subst hX
    refine ⟨⟨S.nd, fun _ => rfl, hr.units, (show (A.deeper (envOfC qual scope s.heap.objs.size f cdv)).units + 65 < cLine by have := hr.un; omega), C.free, C.gcd, C.con, takes_of rfl rfl rfl rfl, fun _ f hf => ?_, C.fnd, C.xf⟩, S.kind, fun _ => rfl, fun _ => passes_of rfl, fun _ => rfl, rfl, fun _ c hc => ?_, C.hd⟩
    · obtain ⟨a, fd, ps, b, q1, q2, q3⟩ := C.fns f hf
      exact ⟨a, fd, ps, k, b, q1, q2, hr, q3⟩
    · obtain ⟨q0, C', fI, fd, q1, q2, q3, q4, q5, q6, q7⟩ := C.rs c hc
      exact ⟨⟨C', fI, 1, fd, q1, q2, q3, q4, q5, q6, hr.mono hk, q7⟩, q0⟩
  have hN : X.N = N := by subst hX; rfl
  have hS : X.env.scope = scope := by subst hX; rfl
  have hkx : kx X = ⟨K, mg⟩ := by subst hX; rfl
  refine ⟨_, sSs d.body Cc (by rw [hN, hS]; exact hm), ?_⟩
  obtain ⟨Z, G, ι, h, as, hl, R, r, p⟩ := hsp
  rw [hkx]
  refine ⟨Z, G, ι, h, as.map some ++ List.replicate (d.ns - as.length) none, R, ⟨?_, fun i y e => ?_⟩, OP.exit R p⟩
  · unfold L2.start
    rw [List.length_append, List.length_append, List.length_map, List.length_map, List.length_replicate, List.length_replicate, hns, r.length]
  · unfold L2.start
    by_cases hi : i < as.length
    · rw [List.getElem?_append_left (by rw [List.length_map]; exact hi), List.getElem?_map] at e
      rw [List.getElem?_append_left (by rw [List.length_map, ← r.length]; exact hi), List.getElem?_map]
      cases e1 : as[i]? with
      | none => rw [e1] at e; cases e
      | some z =>
        rw [e1] at e
        cases e
        obtain ⟨v, e2, r2⟩ := r.get e1
        exact ⟨v, by rw [e2]; rfl, r2⟩
    · rw [List.getElem?_append_right (by rw [List.length_map]; omega)] at e
      have := List.mem_of_getElem? e
      rw [List.mem_replicate] at this
      cases this.2
/-- WishError's own __init__ -/
theorem init_ok {x qual : Str} {params : Arguments} {bd : List Stmt} {scope : Scope} {f : Addr} {fd : FuncData} (F : FunD K x qual params bd scope [] [] f fd) (S : FnScope ["self", "value"] ["self", "value"] scope)
    (hb : ∃ p1 p2 p3 p4 p5 p6 p7 p8 p9 p10, bd = [.Expr (.Call (.Attribute (.Name "ValueError" p1) "__init__" p2) [.Name "self" p3, .Name "value" p4] [] p5) p6, .Assign [.Attribute (.Name "self" p7) "value" p8] (.Name "value" p9) p10] ∧ ∀ env : Env, ∃ pl : Sem Bool, eval (.Call (.Attribute (.Name "ValueError" p1) "__init__" p2) [.Name "self" p3, .Name "value" p4] [] p5) env = (do
      let ov ← eval (.Name "ValueError" p1) env
      standAt p2.atName
      let (f, first) ← holding [ov] (getMethod ov "__init__" pl)
      callWith p5 f first (backTo p5 (starEach [.Name "self" p3, .Name "value" p4] env)) (backToKw p5 (keywordEach [] env))))
    (hg : scope.names.lookup ("ValueError" : Str) = some .globalImplicit) (hs : scope.names.lookup ("self" : Str) = some .local) (hv : scope.names.lookup ("value" : Str) = some .local) (hm : mg "ValueError" = none)
    (vV : PySem.W.findCls K (.type "ValueError") (.type "type") "__init__" = some (.val (.builtin "ValueError.__init__"))) : FnOk P w K mg base (L2.CX P w) 1 f fd ["self", "value"] (spInit K) := by
  obtain ⟨p1, p2, p3, p4, p5, p6, p7, p8, p9, p10, rfl, hpl⟩ := hb
  refine F.ok S (fun vs H Q E h => ?_) fun cdv A outer s H vs Q E hr hsp => ?_
  · obtain ⟨a, C, y, rfl, _⟩ := h; rfl
  · generalize hX : cxOf (L2.CX P w) P w K mg base [("self" : Str), ("value" : Str)] qual scope f cdv A outer s H E = X
    have hN : X.N = [("self" : Str), ("value" : Str)] := by subst hX; rfl
    have hS : X.env.scope = scope := by subst hX; rfl
    have hK : X.K = K := by subst hX; rfl
    have hmg : X.mg = mg := by subst hX; rfl
    have v0 : ∀ p, PE X (.Name "self" p) (tVar 0) := fun p => pe_var (by rw [hN]; rfl) (.inl (by rw [hS]; exact hs))
    have v1 : ∀ p, PE X (.Name "value" p) (tVar 1) := fun p => pe_var (by rw [hN]; rfl) (.inl (by rw [hS]; exact hv))
    obtain ⟨pl, hpl⟩ := hpl X.env
    refine ⟨_, pss_cons (ps_expr (pe_veinit (show X.env.scope.names.lookup ("ValueError" : Str) = some .globalImplicit by rw [hS]; exact hg) (by rw [hmg]; exact hm) (by rw [hK]; exact vV) (pa_cons (v0 p3) (pa_cons (v1 p4) pa_nil)) hpl)) (pss_one (ps_ost (v0 p7) (v1 p9))), ?_⟩
    obtain ⟨a, C, y, rfl, hC, hno, ha, hq⟩ := hsp
    rw [hK]
    refine ⟨_, rfl, _, rfl, a, C, [y], rfl, by simp, hC, ha, _, rfl, _, rfl, a, C, rfl, hC, hno, .inl ⟨ha, fun dx h1 h2 => ?_⟩⟩
    exact hq dx h1 h2
end
end Mx

end

section
set_option Elab.async false
set_option linter.all false
set_option maxRecDepth 100000
set_option maxHeartbeats 8000000
/-! A whole program: what is looked at behind the top; levels of calls. -/
namespace Mx
open PySem PySem.Spec PyProof.Rows L2
/-- one def: its name, what it does, its names, its text -/
structure Ent where
  f : Str
  d : Fn
  N : List Str
  D : He.DefD
/-- what is looked at in the text of a def -/
def stOk (L : Lk) (e : Ent) : Bool :=
  (match e.D.scope.kind with | .function => true | _ => false) && !e.D.scope.isCoroutine && !e.D.scope.isGenerator && decide e.N.Nodup && decide (e.N.take e.d.ps.length = e.d.ps) && e.d.ps.all (locB e.D.scope) && e.D.scope.names.all (fun y => !(y.2 == .free)) &&
    decide (e.d.ns = e.N.length) && e.D.params.posonlyargs.isEmpty && e.D.params.kwonlyargs.isEmpty && e.D.params.vararg.isNone && e.D.params.kwarg.isNone && decide (e.D.params.args.map (·.arg) = e.d.ps) && e.D.dfl.isEmpty && e.D.kwd.isEmpty &&
    decide (e.D.at_ = (e.f, none)) && mSs L e.N e.D.scope false e.d.body e.D.body
theorem fnScope_of {N P : List Str} {sc : Scope} (h1 : (match sc.kind with | .function => true | _ => false) = true) (h2 : sc.isCoroutine = false) (h3 : sc.isGenerator = false) (h4 : N.Nodup) (h5 : N.take P.length = P) (h6 : P.all (locB sc) = true) (h7 : sc.names.all (fun y => !(y.2 == .free)) = true) : FnScope N P sc := by
  refine ⟨?_, h2, h3, h4, h5, fun x hx => loc_of (List.all_eq_true.mp h6 x hx), fun y hy e => ?_⟩
  · split at h1
    · assumption
    · cases h1
  · have := List.all_eq_true.mp h7 y hy
    rw [e] at this
    cases this
/-! ### the written part -/
mutual
def pvB (K : PySem.W.Frag) : PV → Value → Bool
  | .non, .none => true
  | .bl b, .bool c => b == c
  | .int i, .int j _ => decide (i = j)
  | .str x, .str y _ => decide (x = y)
  | .tup xs, .ref a => match K.lookup a with
    | some ⟨.type c, none, .seq its _, _⟩ => decide (c = "tuple") && decide (its.size ≤ sizeLine) && pvsB K xs its.toList
    | _ => false
  | _, _ => false
def pvsB (K : PySem.W.Frag) : List PV → List Value → Bool
  | [], [] => true
  | x :: xs, u :: us => pvB K x u && pvsB K xs us
  | _, _ => false
end
mutual
theorem pvB_ok {K : PySem.W.Frag} {mg : Str → Option Value} : ∀ {x : PV} {u : Value}, pvB K x u = true → ∃ y, RelV y u ∧ ∀ G ι, RV ⟨K, mg⟩ G ι x y
  | .non, u, h => by
    cases u <;> try (cases h; done)
    exact ⟨.non, rfl, fun _ _ => .non⟩
  | .bl b, u, h => by
    cases u <;> try (cases h; done)
    simp only [pvB, beq_iff_eq] at h
    subst h
    exact ⟨.bl b, rfl, fun _ _ => .bl b⟩
  | .int i, u, h => by
    cases u <;> try (cases h; done)
    simp only [pvB, decide_eq_true_eq] at h
    subst h
    exact ⟨.int i, ⟨_, rfl⟩, fun _ _ => .int i⟩
  | .str i, u, h => by
    cases u <;> try (cases h; done)
    simp only [pvB, decide_eq_true_eq] at h
    subst h
    exact ⟨.str i, ⟨_, rfl⟩, fun _ _ => .str i⟩
  | .tup xs, u, h => by
    cases u <;> try (cases h; done)
    rename_i a
    unfold pvB at h
    split at h
    · rename_i c its n sl e
      simp only [Bool.and_eq_true, decide_eq_true_eq] at h
      obtain ⟨⟨rfl, h2⟩, h3⟩ := h
      obtain ⟨ys, r1, r2⟩ := pvsB_ok (K := K) (mg := mg) h3
      exact ⟨.ref a, rfl, fun G ι => .tup (.inr ⟨_, its, n, e, rfl, rfl, h2, r1, rfl⟩) (r2 G ι)⟩
    · cases h
  | .lst _, u, h => by cases u <;> cases h
  | .dic _ _, u, h => by cases u <;> cases h
  | .ref _, u, h => by cases u <;> cases h
  | .exn _ _, u, h => by cases u <;> cases h
  | .fn _, u, h => by cases u <;> cases h
theorem pvsB_ok {K : PySem.W.Frag} {mg : Str → Option Value} : ∀ {xs : List PV} {us : List Value}, pvsB K xs us = true → ∃ ys, Vals ys us ∧ ∀ G ι, RVs ⟨K, mg⟩ G ι xs ys
  | [], us, h => by
    cases us with
    | nil => exact ⟨[], .nil, fun _ _ => .nil⟩
    | cons _ _ => cases h
  | x :: xs, us, h => by
    cases us with
    | nil => cases h
    | cons u us =>
      unfold pvsB at h
      rw [Bool.and_eq_true] at h
      obtain ⟨y, r1, r2⟩ := pvB_ok (K := K) (mg := mg) h.1
      obtain ⟨ys, r3, r4⟩ := pvsB_ok (K := K) (mg := mg) h.2
      exact ⟨y :: ys, .cons r1 r3, fun G ι => .cons (r2 G ι) (r4 G ι)⟩
end
def oexB (K : PySem.W.Frag) (C : Addr) : Bool := match K.lookup C with
  | some ⟨.type t, _, .cls cd, sl⟩ => decide (t = "type") && (match cd.mro, sl.toList with
    | .ref C' :: bm, [_, _, _, _, some (.builtin n), _] => decide (C' = C) && decide (n = "ValueError.__new__") && !cd.hasDel && cd.hasDict && PySem.HandSPX.refsVE bm
    | _, _ => false) &&
    He.eqO (PySem.W.findIn K (.ref C) "__setattr__") (some (some (.builtin "object.__setattr__"))) && decide (PySem.W.subIn K (.ref C) (.type "BaseException") = some true) && decide (PySem.W.typeIn K (.ref C) = some (.type "type")) && PySem.W.keepIn K (.ref C)
  | _ => false
theorem oexB_ok {K : PySem.W.Frag} {C : Addr} (h : oexB K C = true) : OexC K C := by
  unfold oexB at h
  split at h
  · rename_i t dd cd sl e
    simp only [Bool.and_eq_true, decide_eq_true_eq] at h
    obtain ⟨⟨⟨⟨⟨rfl, h1⟩, h2⟩, h3⟩, h4⟩, h5⟩ := h
    split at h1
    · rename_i C' bm k0 k1 k2 k3 n k5 hm hs
      simp only [Bool.and_eq_true, decide_eq_true_eq, Bool.not_eq_true'] at h1
      obtain ⟨⟨⟨⟨rfl, rfl⟩, hdel⟩, hd⟩, hr⟩ := h1
      refine ⟨?_, He.eqO_ok h2, h3, h4, h5⟩
      obtain ⟨nm, bs, mro, ns, qn, hdc, sn, sub, ab, col, del⟩ := cd
      dsimp only at hm hdel hd
      subst hm hdel hd
      have hsl : sl = #[k0, k1, k2, k3, some (.builtin "ValueError.__new__"), k5] := by
        obtain ⟨l⟩ := sl
        simp only at hs
        rw [hs]
      subst hsl
      exact ⟨nm, qn, ns, bs, bm, sn, sub, ab, col, dd, k0, k1, k2, k3, k5, e, hr⟩
    · cases h1
  · cases h
abbrev iniA (K : PySem.W.Frag) : Addr := He.ma K (He.ga K "WishError") "__init__"
def veIB (K : PySem.W.Frag) : Bool := match PySem.W.findCls K (.type "ValueError") (.type "type") "__init__" with
  | some (.val (.builtin n)) => decide (n = "ValueError.__init__")
  | _ => false
theorem veIB_ok {K : PySem.W.Frag} (h : veIB K = true) : PySem.W.findCls K (.type "ValueError") (.type "type") "__init__" = some (.val (.builtin "ValueError.__init__")) := by
  unfold veIB at h
  split at h
  · rename_i n e
    rw [e, of_decide_eq_true h]
  · cases h
/-- what is looked at behind the top -/
def chkK (L : Lk) (exc : List Str) (cons : List (Str × PV)) (K : PySem.W.Frag) : Bool :=
  L.fns.all (fun f => He.Fa.ok K (.glo f)) && L.fr.all (fun x => He.Fa.ok K (.free x)) && (!L.gcd || He.eqO (PySem.W.nsIn K mainGlobals "gcd") (some (some (.builtin "math.gcd")))) &&
    cons.all (fun p => match PySem.W.nsIn K mainGlobals p.1 with | some (some u) => pvB K p.2 u | _ => false) &&
    exc.all (fun c => He.Fa.ok K (.glo c) && oexB K (He.ga K c) && xfB K (He.ga K c) && He.eqO (PySem.W.findIn K (.ref (He.ga K c)) "value") (some none) && He.eqO (PySem.W.findIn K (.ref (He.ga K c)) "__init__") (some (some (.ref (iniA K))))) &&
    exc.all (fun c => L.exc.all fun t => decide (PySem.W.exmOne K (.ref (He.ga K c)) (.ref (He.ga K t)) = some (subT exc c t))) &&
    (exc.isEmpty || (decide (PySem.W.typeIn K (.ref (iniA K)) = some (.type "function")) && He.Fa.ok K (.free "ValueError") && veIB K))
/-- no list: the script is none of it -/
def noLst (p : Addr × Obj) : Bool := match p.2.cls with
  | .type c => !(c == "list")
  | _ => true
def frM (n : Nat) (g : Addr → Option Obj) : PySem.W.Frag := (He.frG g (He.asD g n)).filter noLst
theorem frG_mem {g : Addr → Option Obj} {as : List Addr} {p : Addr × Obj} (h : p ∈ He.frG g as) : g p.1 = some p.2 := by
  unfold He.frG at h
  obtain ⟨a, ha, e⟩ := List.mem_filterMap.mp h
  cases q : g a with
  | none => rw [q] at e; cases e
  | some o => rw [q] at e; cases e; exact q
theorem mem_of_lookupA {α : Type} {a : Addr} {o : α} : ∀ {l : List (Addr × α)}, l.lookup a = some o → (a, o) ∈ l
  | (b, x) :: l, h => by
    rw [List.lookup_cons] at h
    cases hb : a == b with
    | true => rw [hb] at h; cases h; rw [beq_iff_eq.mp hb]; exact List.mem_cons_self
    | false => rw [hb] at h; exact List.mem_cons_of_mem _ (mem_of_lookupA h)
def NoL (K : PySem.W.Frag) : Prop := ∀ a o, K.lookup a = some o → o.cls ≠ .type "list"
theorem frM_in {n : Nat} {h : Heap} : (frM n h.get?).In h := fun a o e => by
  have m := mem_of_lookupA e
  exact frG_mem (List.mem_filter.mp m).1
theorem frM_no {n : Nat} {g : Addr → Option Obj} : NoL (frM n g) := fun a o e q => by
  have m := (List.mem_filter.mp (mem_of_lookupA e)).2
  unfold noLst at m
  dsimp only at m
  rw [q] at m
  cases m
abbrev AlM : Type := Bool × List He.FnW
def obsM (chk : PySem.W.Frag → Bool) (fn : List He.DefD) (K : PySem.W.Frag) : AlM := (chk K && fn.all fun d => d.ok K, fn.map fun d => He.fnW K d.at_)
def valM (fn : List He.DefD) : AlM := (true, fn.map He.DefD.val)
def SaysM (chk : PySem.W.Frag → Bool) (fn : List He.DefD) (K : PySem.W.Frag) : Prop := NoL K ∧ obsM chk fn K = valM fn
def obsMG (n : Nat) (chk : PySem.W.Frag → Bool) (fn : List He.DefD) (g : Addr → Option Obj) : AlM := obsM chk fn (frM n g)
def hookM (n : Nat) (chk : PySem.W.Frag → Bool) (fn : List He.DefD) : PySem.W.Hook where
  α := AlM
  obs := fun s => obsMG n chk fn s.heap.get?
  val := fun _ => valM fn
  says := fun _ h => ∃ K : PySem.W.Frag, K.In h ∧ SaysM chk fn K
  of := fun _ _ e => ⟨_, frM_in, frM_no, e⟩
  keeps := fun _ _ _ ⟨K, hK, c⟩ k => ⟨K, PySem.W.Frag.In.keeps hK k, c⟩
theorem obsMG_eq {n : Nat} {chk : PySem.W.Frag → Bool} {fn : List He.DefD} {g : Addr → Option Obj} {s : Shared} (h : ∀ a, g a = s.heap.get? a) : obsMG n chk fn g = (hookM n chk fn).obs s := by
  have e : g = s.heap.get? := funext h
  rw [e] <;> rfl
theorem SaysM.chk {chk : PySem.W.Frag → Bool} {fn : List He.DefD} {K : PySem.W.Frag} (c : SaysM chk fn K) : chk K = true := (He.ba (show (chk K && fn.all fun d => d.ok K) = true from congrArg (fun z : AlM => z.1) c.2)).1
theorem SaysM.def_ {chk : PySem.W.Frag → Bool} {fn : List He.DefD} {K : PySem.W.Frag} (c : SaysM chk fn K) {d : He.DefD} (h : d ∈ fn) : ∃ fd, FunD K d.name d.qual d.params d.body d.scope (d.dvs K) (d.kws K) (He.fAd K d.at_) fd := by
  have c2 := (He.ba (show (chk K && fn.all fun d => d.ok K) = true from congrArg (fun z : AlM => z.1) c.2)).2
  have e : fn.map (fun d => He.fnW K d.at_) = fn.map He.DefD.val := congrArg (fun z : AlM => z.2) c.2
  obtain ⟨i, hi, hd⟩ := List.mem_iff_getElem.mp h
  have e2 : (fn.map fun d => He.fnW K d.at_)[i]? = (fn.map He.DefD.val)[i]? := by rw [e]
  rw [List.getElem?_map, List.getElem?_map, List.getElem?_eq_getElem hi, hd] at e2
  exact He.DefD.funD (Option.some.inj e2) (List.all_eq_true.mp c2 d h)

section
variable {P : Program} {w : World} {K : PySem.W.Frag} {mg : Str → Option Value} {base : Heap} {L : Lk} {Pg : Pg} {ents : List Ent} {cons : List (Str × PV)} {dI : He.DefD}
/-- the text of WishError's __init__ -/
def InitD (d : He.DefD) : Prop := d.at_ = (("WishError" : Str), some ("__init__" : Str)) ∧ d.dfl = [] ∧ d.kwd = [] ∧ d.params.posonlyargs = [] ∧ d.params.kwonlyargs = [] ∧ d.params.vararg = none ∧ d.params.kwarg = none ∧ d.params.args.map (·.arg) = [("self" : Str), ("value" : Str)] ∧
  FnScope ["self", "value"] ["self", "value"] d.scope ∧ d.scope.names.lookup ("ValueError" : Str) = some .globalImplicit ∧ d.scope.names.lookup ("self" : Str) = some .local ∧ d.scope.names.lookup ("value" : Str) = some .local ∧
  ∃ p1 p2 p3 p4 p5 p6 p7 p8 p9 p10, d.body = [.Expr (.Call (.Attribute (.Name "ValueError" p1) "__init__" p2) [.Name "self" p3, .Name "value" p4] [] p5) p6, .Assign [.Attribute (.Name "self" p7) "value" p8] (.Name "value" p9) p10] ∧ ∀ env : Env, ∃ pl : Sem Bool, eval (.Call (.Attribute (.Name "ValueError" p1) "__init__" p2) [.Name "self" p3, .Name "value" p4] [] p5) env = (do
      let ov ← eval (.Name "ValueError" p1) env
      standAt p2.atName
      let (f, first) ← holding [ov] (getMethod ov "__init__" pl)
      callWith p5 f first (backTo p5 (starEach [.Name "self" p3, .Name "value" p4] env)) (backToKw p5 (keywordEach [] env)))
/-- what is said of the text alone -/
structure Txt (L : Lk) (Pg : Mx.Pg) (ents : List Ent) (cons : List (Str × PV)) (dI : He.DefD) : Prop where
  st : ∀ e ∈ ents, stOk L e = true
  fns : ∀ f ∈ L.fns, ∃ e ∈ ents, e.f = f ∧ Pg.fns f = some e.d
  fnd : ∀ f, (Pg.fns f).isSome = true → f ∈ L.fns
  con : ∀ x ∈ L.cons, ∃ v, (x, v) ∈ cons ∧ Pg.con x = some v
  exc : ∀ t ∈ L.exc, t ∈ Pg.exc
  ini : Pg.exc ≠ [] → InitD dI
abbrev fnsOf (ents : List Ent) (Pg : Mx.Pg) (dI : He.DefD) : List He.DefD := ents.map (·.D) ++ (if Pg.exc.isEmpty then [] else [dI])
theorem ent_ok (T : Txt L Pg ents cons dI) (S : SaysM (chkK L Pg.exc cons) (fnsOf ents Pg dI) K) {e : Ent} (he : e ∈ ents) : ∃ fd, FunD K e.D.name e.D.qual e.D.params e.D.body e.D.scope [] [] (He.ga K e.f) fd ∧ FnScope e.N e.d.ps e.D.scope ∧ e.d.ns = e.N.length ∧ mSs L e.N e.D.scope false e.d.body e.D.body = true ∧
    ∀ mg : Str → Option Value, mg e.f = some (.ref (He.ga K e.f)) → DefK ⟨K, mg⟩ e.f (He.ga K e.f) fd e.d.ps := by
  have h := T.st e he
  unfold stOk at h
  simp only [Bool.and_eq_true, decide_eq_true_eq, Bool.not_eq_true', List.isEmpty_iff, Option.isNone_iff_eq_none] at h
  obtain ⟨⟨⟨⟨⟨⟨⟨⟨⟨⟨⟨⟨⟨⟨⟨⟨h1, h2⟩, h3⟩, h4⟩, h5⟩, h6⟩, h7⟩, h8⟩, h9⟩, h10⟩, h11⟩, h12⟩, h13⟩, h14⟩, h15⟩, h16⟩, h17⟩ := h
  obtain ⟨fd, F⟩ := S.def_ (d := e.D) (List.mem_append_left _ (List.mem_map_of_mem he))
  have e1 : e.D.dvs K = [] := by unfold He.DefD.dvs; rw [h14]; rfl
  have e2 : e.D.kws K = [] := by unfold He.DefD.kws; rw [h15]; rfl
  have e3 : He.fAd K e.D.at_ = He.ga K e.f := by rw [h16]; rfl
  rw [e1, e2, e3] at F
  have nd : e.d.ps.Nodup := by rw [← h5]; exact (List.take_sublist _ _).nodup h4
  refine ⟨fd, F, fnScope_of h1 h2 h3 h4 h5 h6 h7, h8, h17, fun mg hmg => ?_⟩
  obtain ⟨oc, od, dV, kV, doc, pm, an, cdv, ct, osl, rfl, lk, hcd, hD, hK⟩ := F.ex
  refine ⟨hmg, F.kp, h9, h10, h11, h12, ?_, h13, nd⟩
  rcases hD with ⟨_, rfl⟩ | ⟨q, _⟩
  · rfl
  · exact absurd rfl q
theorem lev (T : Txt L Pg ents cons dI) {h : Heap} (X : K.In h) (G : h.Ns mainGlobals mg) (S : SaysM (chkK L Pg.exc cons) (fnsOf ents Pg dI) K) : ∀ n : Nat, Cf P w K mg base L Pg (call Pg n) (n + 2) := by
  have hc := S.chk
  unfold chkK at hc
  simp only [Bool.and_eq_true, List.all_eq_true, decide_eq_true_eq] at hc
  obtain ⟨⟨⟨⟨⟨⟨c1, c2⟩, c3⟩, c4⟩, c5⟩, c6⟩, c7⟩ := hc
  have gl : ∀ {c : Str} {C : Addr}, He.Fa.ok K (.glo c) = true → mg c = some (.ref C) → C = He.ga K c := fun h1 h2 => by
    have := He.glo_ok X G h1
    rw [h2] at this
    cases this; rfl
  have xf : ∀ c ∈ Pg.exc, ∀ C, mg c = some (.ref C) → XfC K C ∧ PySem.W.findIn K (.ref C) "value" = some none := fun c hcc C hC => by
    have q := c5 c hcc
    have := gl q.1.1.1.1 hC
    subst this
    exact ⟨xfB_ok q.1.1.2, He.eqO_ok q.1.2⟩
  have hd : ∀ t ∈ L.exc, ∃ T, mg t = some (.ref T) ∧ ∀ c ∈ Pg.exc, ∀ C, mg c = some (.ref C) → PySem.W.exmOne K (.ref C) (.ref T) = some (subT Pg.exc c t) := fun t ht => by
    have q := c5 t (T.exc t ht)
    refine ⟨He.ga K t, He.glo_ok X G q.1.1.1.1, fun c hcc C hC => ?_⟩
    have q2 := c5 c hcc
    have := gl q2.1.1.1.1 hC
    subst this
    exact c6 c hcc t ht
  have rs : ∀ c ∈ L.exc, c ∈ Pg.exc ∧ ∃ (C fI : Addr) (fd : FuncData), mg c = some (.ref C) ∧ OexC K C ∧ PySem.W.findIn K (.ref C) "value" = some none ∧ PySem.W.findIn K (.ref C) "__init__" = some (some (.ref fI)) ∧ PySem.W.typeIn K (.ref fI) = some (.type "function") ∧
      FnOk P w K mg base (L2.CX P w) 1 fI fd ["self", "value"] (spInit K) ∧ L2.Binds K fd ["self", "value"] [] := fun c hcL => by
    have hcc := T.exc c hcL
    have q := c5 c hcc
    have hne : Pg.exc ≠ [] := fun e => by rw [e] at hcc; cases hcc
    have hne' : Pg.exc.isEmpty = false := by
      cases e : Pg.exc with
      | nil => exact absurd e hne
      | cons _ _ => rfl
    rw [hne', Bool.false_or, Bool.and_eq_true, Bool.and_eq_true, decide_eq_true_eq] at c7
    obtain ⟨⟨d1, d2⟩, d3⟩ := c7
    obtain ⟨i1, i2, i3, i4, i5, i6, i7, i8, i9, i10, i11, i12, i13⟩ := T.ini hne
    have hmem : dI ∈ fnsOf ents Pg dI := List.mem_append_right _ (by rw [hne']; exact List.mem_singleton.mpr rfl)
    obtain ⟨fd, F⟩ := S.def_ hmem
    have e1 : dI.dvs K = [] := by unfold He.DefD.dvs; rw [i2]; rfl
    have e2 : dI.kws K = [] := by unfold He.DefD.kws; rw [i3]; rfl
    have e3 : He.fAd K dI.at_ = iniA K := by rw [i1]; rfl
    rw [e1, e2, e3] at F
    refine ⟨hcc, He.ga K c, iniA K, fd, He.glo_ok X G q.1.1.1.1, oexB_ok q.1.1.1.2, He.eqO_ok q.1.2, He.eqO_ok q.2, d1, init_ok F i9 i13 i10 i11 i12 (He.free_ok X G d2) (veIB_ok d3), ?_⟩
    refine L2.Binds.all fun us hl => ?_
    obtain ⟨oc, od, dV, kV, doc, pm, an, cdv, ct, osl, rfl, lk, hcd, hD, hK⟩ := F.ex
    have hdV : dV = .none := by
      rcases hD with ⟨_, rfl⟩ | ⟨q, _⟩
      · rfl
      · exact absurd rfl q
    have hb := binds_all (fd := PySem.W.fnOf dI.name dI.qual dI.params dI.body dI.scope dV kV doc pm an cdv ct) (ps := [("self" : Str), ("value" : Str)]) i4 i5 i6 i7 (by subst hdV; rfl) i8 (by decide) (us := us) (ws := []) (ks := []) (as := us) (by
      unfold argsOf
      rw [if_pos (by refine ⟨by simpa using hl, rfl, List.nodup_nil, fun k hk => by cases hk⟩)]
      have e0 : ([("self" : Str), ("value" : Str)] : List Str).drop us.length = [] := List.drop_eq_nil_of_le (by rw [hl]; exact Nat.le_refl _)
      rw [e0]
      simp [looks])
    simpa using hb
  have con : ∀ x ∈ L.cons, ∃ v u y, Pg.con x = some v ∧ mg x = some u ∧ RelV y u ∧ ∀ G ι, RV ⟨K, mg⟩ G ι v y := fun x hx => by
    obtain ⟨v, h1, h2⟩ := T.con x hx
    have q := c4 (x, v) h1
    dsimp only at q
    split at q
    · rename_i u e
      obtain ⟨y, r1, r2⟩ := pvB_ok (K := K) (mg := mg) q
      exact ⟨v, u, y, h2, PySem.W.mg_of X G e, r1, r2⟩
    · cases q
  have gcd : L.gcd = true → mg "gcd" = some (.builtin "math.gcd") := fun hg => by
    rw [hg] at c3
    exact PySem.W.mg_of X G (He.eqO_ok (by simpa using c3))
  have free : ∀ x ∈ L.fr, mg x = none := fun x hx => He.free_ok X G (c2 x hx)
  intro n
  induction n with
  | zero =>
    refine ⟨free, gcd, con, fun f hf => ?_, T.fnd, xf, rs, hd⟩
    obtain ⟨e, he, rfl, hP⟩ := T.fns f hf
    obtain ⟨fd, F, Sc, hns, hm, hD⟩ := ent_ok T S he
    refine ⟨He.ga K e.f, fd, e.d.ps, fun _ _ => .stuck, hD mg (He.glo_ok X G (c1 _ hf)), ⟨fun vs H Q E q => spF_len q, fun A outer s H args us vs Q E _ _ _ _ q => ?_⟩, fun xs ks ys h => ?_⟩
    · obtain ⟨Z, G, ι, h, as, hl, R, r, p⟩ := q
      exact p.elim
    · show Res.stuck = _
      cases argsOf e.d.ps xs ks ys <;> rfl
  | succ n ih =>
    refine ⟨free, gcd, con, fun f hf => ?_, T.fnd, xf, rs, hd⟩
    obtain ⟨e, he, rfl, hP⟩ := T.fns f hf
    obtain ⟨fd, F, Sc, hns, hm, hD⟩ := ent_ok T S he
    refine ⟨He.ga K e.f, fd, e.d.ps, body Pg (call Pg n) e.d, hD mg (He.glo_ok X G (c1 _ hf)), fn_level ih (by omega) F Sc hns hm, fun xs ks ys h => ?_⟩
    show call Pg (n + 1) e.f xs ks ys h = _
    unfold Mx.call
    rw [hP] <;> rfl
/-- the law's own def -/
theorem law_fn (T : Txt L Pg ents cons dI) {e : Ent} (he : e ∈ ents) (hps : e.d.ps = [("script" : Str)]) {h : Heap} (X : K.In h) (G : h.Ns mainGlobals mg) (S : SaysM (chkK L Pg.exc cons) (fnsOf ents Pg dI) K) (hg : mg e.f = some (.ref (He.ga K e.f))) (n : Nat) :
    ∃ fd : FuncData, (∀ (s : Shared) (v : Value), BindsTo s fd ⟨[v], []⟩ [("script", v)]) ∧ ∀ base : Heap, K.In base → base.Ns mainGlobals mg → FnOk P w K mg base (L2.CX P w) (n + 3) (He.ga K e.f) fd ["script"] (spF Pg.exc ⟨K, mg⟩ 1 (body Pg (call Pg n) e.d)) := by
  obtain ⟨fd, F, Sc, hns, hm, hD⟩ := ent_ok T S he
  have D := hD mg hg
  refine ⟨fd, fun s v => .of_eq ?_, fun base hb1 hb2 => ?_⟩
  · have hb := binds_all D.po D.ko D.va D.ka D.df D.nm D.nd (us := [v]) (ws := []) (ks := []) (as := [v]) (by
      unfold argsOf
      rw [hps]
      rw [if_pos (by refine ⟨rfl, rfl, List.nodup_nil, fun k hk => by cases hk⟩)]
      rfl)
    rw [hps] at hb
    simpa using hb
  · have := fn_level (lev (P := P) (w := w) (base := base) T X G S n) (by omega) F Sc hns hm
    rw [hps] at this
    exact this
/-- the law's promise, from what its body does -/
theorem law_sp {exc : List Str} {b : List PV → MH → Res PV} {h' : MH} {H : Hp} {a : Addr} {ns : List Int} (hO : Only H) (hn : NoL K) (hS : SqL K H a (ns.map V.int)) (hb : b [.lst (ns.map .int)] [] = .ok (.bl true) h') :
    spF exc ⟨K, mg⟩ 1 b [.ref a] H (fun v _ => v = .bl true) fun _ _ _ => False := by
  have rd : Rd H a (.lst (ns.map V.int)) := by
    rcases hS with q | ⟨o, its, n, q1, q2, _⟩
    · exact q
    · exact absurd q2 (hn a o q1)
  have rv : ∀ l : List Int, RVs ⟨K, mg⟩ H [] (l.map PV.int) (l.map V.int) := fun l => by
    induction l with
    | nil => exact .nil
    | cons i l ih => exact .cons (.int i) ih
  refine ⟨[], H, [], [], [.lst (ns.map .int)], rfl, ⟨Same.refl _, rfl, List.nodup_nil, fun _ h => (by cases h), fun n a o e _ => (by simp at e), fun _ h => (by cases h)⟩, .cons (.lst rd (rv ns)) .nil, ?_⟩
  rw [hb]
  intro G' ι' H' x n r
  exact r.bl_inv
end

/-! ### a program by its defs -/
def mkPg (ents : List Ent) (cons : List (Str × PV)) (exc : List Str) : Mx.Pg := ⟨fun f => (ents.map fun e => (e.f, e.d)).lookup f, fun x => cons.lookup x, exc⟩
theorem lookup_mem {α : Type} : ∀ {l : List (Str × α)} {x : Str}, x ∈ l.map (·.1) → ∃ v, (x, v) ∈ l ∧ l.lookup x = some v
  | (k, v) :: l, x, h => by
    rw [List.lookup_cons]
    cases hb : x == k with
    | true =>
      have := beq_iff_eq.mp hb
      subst this
      exact ⟨v, List.mem_cons_self, rfl⟩
    | false =>
      rw [List.map_cons, List.mem_cons] at h
      rcases h with e | h
      · subst e; simp at hb
      · obtain ⟨w, q1, q2⟩ := lookup_mem h
        exact ⟨w, List.mem_cons_of_mem _ q1, q2⟩
theorem txt_of {L : Lk} {ents : List Ent} {cons : List (Str × PV)} {exc : List Str} {dI : He.DefD} (hf : L.fns = ents.map (·.f)) (hc : L.cons = cons.map (·.1)) (he : L.exc = exc) (st : ents.all (stOk L) = true) (ini : exc ≠ [] → InitD dI) : Txt L (mkPg ents cons exc) ents cons dI where
  st := fun e h => List.all_eq_true.mp st e h
  fns := fun f h => by
    rw [hf] at h
    have h2 : f ∈ (ents.map fun e => (e.f, e.d)).map (·.1) := by
      rw [List.map_map]; exact h
    obtain ⟨d, q1, q2⟩ := lookup_mem h2
    obtain ⟨e, he, q3⟩ := List.mem_map.mp q1
    cases q3
    exact ⟨e, he, rfl, q2⟩
  fnd := fun f h => by
    rw [hf]
    have : ∀ l : List Ent, ((l.map fun e => (e.f, e.d)).lookup f).isSome = true → f ∈ l.map (·.f) := by
      intro l
      induction l with
      | nil => intro h; cases h
      | cons e l ih =>
        intro h
        rw [List.map_cons, List.lookup_cons] at h
        rw [List.map_cons, List.mem_cons]
        cases hb : f == e.f with
        | true => exact .inl (beq_iff_eq.mp hb)
        | false => rw [hb] at h; exact .inr (ih h)
    exact this ents h
  con := fun x h => by
    rw [hc] at h
    exact lookup_mem h
  exc := fun t h => by rw [← he]; exact h
  ini := ini
/-- as seen by a caller that takes no exception -/
theorem FnOk_calm {P : Program} {w : World} {K : PySem.W.Frag} {mg : Str → Option Value} {base : Heap} {CX' : CXT} {k : Nat} {f : Addr} {fd : FuncData} {ps : List Str} {sp : Sp} (F : FnOk P w K mg base (L2.CX P w) k f fd ps sp) :
    FnOk P w K mg base CX' k f fd ps (fun vs H Q _ => sp vs H Q fun _ _ _ => False) :=
  ⟨fun vs H Q E q => F.len vs H Q _ q, fun A outer s H args us vs Q E hr he hb hv hs => codeAny_mono (F.run A outer s H args us vs Q _ hr he hb hv hs) fun r s' q => by
    cases r with
    | error e =>
      obtain ⟨_, _, _, _, _, _, _, _, _, _, _, _, z⟩ := q
      exact z.elim
    | ok fl =>
      cases fl with
      | ret u => exact q
      | next => exact q
      | brk => exact q
      | cont => exact q⟩
/-- the law's end -/
theorem law_end {l : PySem.W.OpenLaw} {q : Program} {loose : List Str} {ents : List Ent} {cons : List (Str × PV)} {exc : List Str} {L : Lk} {dI : He.DefD} {d : DefRec} {e : Ent} (T : Txt L (mkPg ents cons exc) ents cons dI) (he : e ∈ ents) (hps : e.d.ps = [("script" : Str)]) (hnm : d.name = e.f) (hdf : d.params.defaults = [])
    (hfn : e.f ∈ L.fns) (hn : l.most = some 63) (n : Nat) (hr : Room (n + 3) callerA) (hb : ∀ ns : List Int, ns.length ≤ 63 → ∃ h', body (mkPg ents cons exc) (call (mkPg ents cons exc) n) e.d [.lst (ns.map .int)] [] = .ok (.bl true) h') :
    PySem.W.WalkO q loose (PySem.W.XL q []) (hookM 5 (chkK L exc cons) (fnsOf ents (mkPg ents cons exc) dI)).says l.row.toRowW d [] (fun f vs => PySem.call f vs) := by
  refine L2.walk_ofE (l := l) (n := 63) (k := n + 3) (x := "script") (CX := fun _ _ _ _ _ _ => False) hn (by rw [sizeLine_eq]; decide) hdf hr ?_ (fun _ _ _ _ z => z)
  intro w mg fa h Y G hmg
  obtain ⟨K, KX, S⟩ := Y
  rw [hnm] at hmg
  have hc := S.chk
  have hglo : mg e.f = some (.ref (He.ga K e.f)) := by
    unfold chkK at hc
    simp only [Bool.and_eq_true, List.all_eq_true] at hc
    exact He.glo_ok KX G (hc.1.1.1.1.1.1 _ hfn)
  have efa := hmg.symm.trans hglo
  cases efa
  obtain ⟨fd, b1, b2⟩ := law_fn (P := l.prog) (w := w) T he hps KX G S hglo n
  exact ⟨K, fd, fun vs H Q _ => spF exc ⟨K, mg⟩ 1 (body (mkPg ents cons exc) (call (mkPg ents cons exc) n) e.d) vs H Q fun _ _ _ => False, KX, b1, fun H a ns hl hO hS => let ⟨h', e⟩ := hb ns hl; law_sp (h' := h') hO S.1 hS e, fun base q1 q2 => FnOk_calm (b2 base q1 q2)⟩
end Mx

end

section
set_option Elab.async false
set_option linter.all false
set_option maxRecDepth 100000
set_option maxHeartbeats 8000000
/-! Lemmas for runs of the small language. -/
namespace Mx
open PySem PySem.Spec PyProof.Rows L2
section
variable {α β : Type}
theorem Res.bind_ok (a : α) (h : MH) (f : α → MH → Res β) : (Res.ok a h).bind f = f a h := Eq.trans rfl rfl
theorem Res.bind_exn (c : Str) (v : PV) (h : MH) (f : α → MH → Res β) : (Res.exn c v h).bind f = .exn c v h := Eq.trans rfl rfl
theorem Res.out_ok (a : α) (h : MH) (ρ : Env') (f : α → MH → Out) : (Res.ok a h).out ρ f = f a h := Eq.trans rfl rfl
theorem Res.out_exn (c : Str) (v : PV) (h : MH) (ρ : Env') (f : α → MH → Out) : (Res.exn c v h : Res α).out ρ f = .exn c v ρ h := Eq.trans rfl rfl
@[simp] theorem Res.nox_ok (a : α) (h : MH) : (Res.ok a h).nox = .ok a h := Eq.trans rfl rfl
end
theorem Out.seq_nx (ρ : Env') (h : MH) (f : Env' → MH → Out) : (Out.nx ρ h).seq f = f ρ h := Eq.trans rfl rfl
theorem Out.seq_rt (v : PV) (h : MH) (f : Env' → MH → Out) : (Out.rt v h).seq f = .rt v h := Eq.trans rfl rfl
theorem Out.seq_exn (c : Str) (v : PV) (ρ : Env') (h : MH) (f : Env' → MH → Out) : (Out.exn c v ρ h).seq f = .exn c v ρ h := Eq.trans rfl rfl
theorem Out.seq_bk (ρ : Env') (h : MH) (f : Env' → MH → Out) : (Out.bk ρ h).seq f = .bk ρ h := Eq.trans rfl rfl
theorem Out.seq_ct (ρ : Env') (h : MH) (f : Env' → MH → Out) : (Out.ct ρ h).seq f = .ct ρ h := Eq.trans rfl rfl
theorem Out.turn_nx (ρ : Env') (h : MH) (f : Env' → MH → Out) : (Out.nx ρ h).turn f = f ρ h := Eq.trans rfl rfl
theorem Out.turn_ct (ρ : Env') (h : MH) (f : Env' → MH → Out) : (Out.ct ρ h).turn f = f ρ h := Eq.trans rfl rfl
theorem Out.turn_bk (ρ : Env') (h : MH) (f : Env' → MH → Out) : (Out.bk ρ h).turn f = .nx ρ h := Eq.trans rfl rfl
theorem Out.turn_rt (v : PV) (h : MH) (f : Env' → MH → Out) : (Out.rt v h).turn f = .rt v h := Eq.trans rfl rfl
theorem Out.turn_exn (c : Str) (v : PV) (ρ : Env') (h : MH) (f : Env' → MH → Out) : (Out.exn c v ρ h).turn f = .exn c v ρ h := Eq.trans rfl rfl
/-! ### what goes on behind is not looked at ahead -/
class Kt (T : Type) where
  k : T
section
variable {α β : Type}
def bnd (r : Res α) [f : Kt (α → MH → Res β)] : Res β := r.bind f.k
def otd (r : Res α) (ρ : Env') [f : Kt (α → MH → Out)] : Out := r.out ρ f.k
def sqd (o : Out) [f : Kt (Env' → MH → Out)] : Out := o.seq f.k
def tnd (o : Out) [f : Kt (Env' → MH → Out)] : Out := o.turn f.k
@[simp ↓] theorem bnd_hide (r : Res α) (f : α → MH → Res β) : r.bind f = @bnd α β r ⟨f⟩ := Eq.trans rfl rfl
@[simp ↓] theorem otd_hide (r : Res α) (ρ : Env') (f : α → MH → Out) : r.out ρ f = @otd α r ρ ⟨f⟩ := Eq.trans rfl rfl
@[simp ↓] theorem sqd_hide (o : Out) (f : Env' → MH → Out) : o.seq f = @sqd o ⟨f⟩ := Eq.trans rfl rfl
@[simp ↓] theorem tnd_hide (o : Out) (f : Env' → MH → Out) : o.turn f = @tnd o ⟨f⟩ := Eq.trans rfl rfl
@[simp] theorem bnd_ok (a : α) (h : MH) (f : α → MH → Res β) : @bnd α β (.ok a h) ⟨f⟩ = f a h := Eq.trans rfl rfl
@[simp] theorem bnd_exn (c : Str) (v : PV) (h : MH) (f : α → MH → Res β) : @bnd α β (.exn c v h) ⟨f⟩ = .exn c v h := Eq.trans rfl rfl
@[simp] theorem otd_ok (a : α) (h : MH) (ρ : Env') (f : α → MH → Out) : @otd α (.ok a h) ρ ⟨f⟩ = f a h := Eq.trans rfl rfl
@[simp] theorem otd_exn (c : Str) (v : PV) (h : MH) (ρ : Env') (f : α → MH → Out) : @otd α (.exn c v h) ρ ⟨f⟩ = .exn c v ρ h := Eq.trans rfl rfl
@[simp] theorem sqd_nx (ρ : Env') (h : MH) (f : Env' → MH → Out) : @sqd (.nx ρ h) ⟨f⟩ = f ρ h := Eq.trans rfl rfl
@[simp] theorem sqd_rt (v : PV) (h : MH) (f : Env' → MH → Out) : @sqd (.rt v h) ⟨f⟩ = .rt v h := Eq.trans rfl rfl
@[simp] theorem sqd_exn (c : Str) (v : PV) (ρ : Env') (h : MH) (f : Env' → MH → Out) : @sqd (.exn c v ρ h) ⟨f⟩ = .exn c v ρ h := Eq.trans rfl rfl
@[simp] theorem sqd_bk (ρ : Env') (h : MH) (f : Env' → MH → Out) : @sqd (.bk ρ h) ⟨f⟩ = .bk ρ h := Eq.trans rfl rfl
@[simp] theorem sqd_ct (ρ : Env') (h : MH) (f : Env' → MH → Out) : @sqd (.ct ρ h) ⟨f⟩ = .ct ρ h := Eq.trans rfl rfl
@[simp] theorem tnd_nx (ρ : Env') (h : MH) (f : Env' → MH → Out) : @tnd (.nx ρ h) ⟨f⟩ = f ρ h := Eq.trans rfl rfl
@[simp] theorem tnd_ct (ρ : Env') (h : MH) (f : Env' → MH → Out) : @tnd (.ct ρ h) ⟨f⟩ = f ρ h := Eq.trans rfl rfl
@[simp] theorem tnd_bk (ρ : Env') (h : MH) (f : Env' → MH → Out) : @tnd (.bk ρ h) ⟨f⟩ = .nx ρ h := Eq.trans rfl rfl
@[simp] theorem tnd_rt (v : PV) (h : MH) (f : Env' → MH → Out) : @tnd (.rt v h) ⟨f⟩ = .rt v h := Eq.trans rfl rfl
@[simp] theorem tnd_exn (c : Str) (v : PV) (ρ : Env') (h : MH) (f : Env' → MH → Out) : @tnd (.exn c v ρ h) ⟨f⟩ = .exn c v ρ h := Eq.trans rfl rfl
end
/-! ### a call -/
theorem call_at {P : Pg} {f : Str} {d : Fn} {n : Nat} {xs ys as : List PV} {ks : List Str} {h : MH} (hf : P.fns f = some d) (ha : argsOf d.ps xs ks ys = some as) : call P (n + 1) f xs ks ys h = body P (call P n) d as h := by
  show (match P.fns f with
    | none => Res.stuck
    | some d => match argsOf d.ps xs ks ys with
      | none => .stuck
      | some as => body P (call P n) d as h) = _
  rw [hf]
  dsimp only
  rw [ha]
theorem args_pos {ps : List Str} {xs : List PV} (h : xs.length = ps.length) : argsOf ps xs [] [] = some xs := by
  unfold argsOf
  rw [if_pos ⟨by simpa using h, rfl, List.nodup_nil, fun k hk => by cases hk⟩]
  rw [h, List.drop_length]
  simp [looks]
/-! ### the end of a def -/
theorem thaw_of {n : Nat} {h : MH} {v : PV} (hv : ∀ k, v ≠ .ref k) : thaw n h v = v := by
  cases v <;> first | rfl | exact absurd rfl (hv _)
theorem leave_len {h h' : MH} {v : PV} (hl : h'.length = h.length) (hv : ∀ k, v ≠ .ref k) : leave h v h' = (v, h') := by
  unfold leave
  by_cases hc : below h.length (thaw h.length h' v) ∧ tidy h h' ∧ h.length ≤ h'.length
  · rw [if_pos hc, thaw_of hv, List.take_of_length_le (by omega)]
  · rw [if_neg hc]
theorem leave_ref {h h' : MH} {k : Nat} (hl : h'.length = h.length) (hk : k < h.length) : leave h (.ref k) h' = (.ref k, h') := by
  unfold leave
  have e : thaw h.length h' (.ref k) = .ref k := by
    show (if k < h.length then PV.ref k else _) = _
    rw [if_pos hk]
  by_cases hc : below h.length (thaw h.length h' (.ref k)) ∧ tidy h h' ∧ h.length ≤ h'.length
  · rw [if_pos hc, e, List.take_of_length_le (by omega)]
  · rw [if_neg hc]
/-- new things are dropped -/
theorem leave_drop {h h' : MH} {v : PV} (hl : h.length ≤ h'.length) (ht : h'.take h.length = h) (hv : ∀ k, v ≠ .ref k) (hb : below h.length v) : leave h v h' = (v, h) := by
  unfold leave
  rw [thaw_of hv]
  have hd : tidy h h' := fun n o hn e => by
    have : (h'.take h.length)[n]? = some o := by rw [List.getElem?_take_of_lt hn]; exact e
    rw [ht] at this
    exact .inl this
  rw [if_pos ⟨hb, hd, hl⟩, ht]
@[simp] theorem leave_self {h : MH} {v : PV} (hv : ∀ k, v ≠ .ref k) : leave h v h = (v, h) := leave_len rfl hv
theorem leave_non (h : MH) : leave h .non h = (.non, h) := leave_len rfl fun k e => by cases e
theorem leave_bl (h : MH) (b : Bool) : leave h (.bl b) h = (.bl b, h) := leave_len rfl fun k e => by cases e
theorem leave_int (h : MH) (i : Int) : leave h (.int i) h = (.int i, h) := leave_len rfl fun k e => by cases e
theorem leave_str (h : MH) (x : Str) : leave h (.str x) h = (.str x, h) := leave_len rfl fun k e => by cases e
theorem leave_tup (h : MH) (xs : List PV) : leave h (.tup xs) h = (.tup xs, h) := leave_len rfl fun k e => by cases e
theorem leave_lst (h : MH) (xs : List PV) : leave h (.lst xs) h = (.lst xs, h) := leave_len rfl fun k e => by cases e
theorem res_rt {h h' : MH} {v : PV} (e : leave h v h' = (v, h')) : (Out.rt v h').res false h = .ok v h' := by
  show Res.ok (leave h v h').1 (leave h v h').2 = _
  rw [e]
theorem res_nx {h h' : MH} {ρ : Env'} (e : leave h .non h' = (.non, h')) : (Out.nx ρ h').res false h = .ok .non h' := by
  show Res.ok (leave h .non h').1 (leave h .non h').2 = _
  rw [e]
theorem res_exn {h h' : MH} {ρ : Env'} {c : Str} {v : PV} (e : leave h v h' = (v, h')) : (Out.exn c v ρ h').res false h = .exn c v h' := by
  show Res.exn c (leave h v h').1 (leave h v h').2 = _
  rw [e]
theorem res_kp {h h' : MH} {v : PV} : (Out.rt v h').res true h = .ok v h' := rfl

@[simp] theorem ixN_0 (n : Nat) : ixN (n + 1) 0 = some 0 := by
  unfold ixN
  rw [if_pos (Int.le_refl 0), if_pos (by omega)]
  rfl
@[simp] theorem ixN_1 (n : Nat) : ixN (n + 1 + 1) 1 = some 1 := by
  unfold ixN
  rw [if_pos (by decide), if_pos (by omega)]
  rfl
@[simp] theorem atI_0 {α : Type} (x : α) (xs : List α) : atI (x :: xs) 0 = some x := by
  unfold atI
  rw [List.length_cons, ixN_0]
  rfl
@[simp] theorem atI_1 {α : Type} (x y : α) (xs : List α) : atI (x :: y :: xs) 1 = some y := by
  unfold atI
  rw [List.length_cons, List.length_cons, ixN_1]
  rfl
theorem fits_of {i j : Int} (h1 : i.natAbs < 2 ^ 9000) (h2 : j.natAbs < 2 ^ 9000) : fits i j := by
  have l : ∀ n : Nat, n < 2 ^ 9000 → n.log2 < 9001 := fun n h => by
    by_cases h0 : n = 0
    · subst h0; decide
    · have := (Nat.log2_lt h0).mpr h
      omega
  have a := l _ h1
  have b := l _ h2
  show i.natAbs.log2 + j.natAbs.log2 < 1000000
  omega
theorem fitd_of {j : Int} (h : j.natAbs < 2 ^ 8999) : fitd j := by
  show j.natAbs.log2 < 9000
  by_cases h0 : j.natAbs = 0
  · rw [h0]; decide
  · have := (Nat.log2_lt h0).mpr h
    omega

/-! ### while -/
theorem whl_more {c : Env' → MH → Res Bool} {b : Env' → MH → Out} : ∀ {n : Nat} {ρ : Env'} {h : MH}, whlN c b n ρ h ≠ .stuck → whlN c b (n + 1) ρ h = whlN c b n ρ h
  | 0, ρ, h, e => absurd rfl e
  | n + 1, ρ, h, e => by
    have e' : ((c ρ h).out ρ fun t h => if t = true then (b ρ h).turn (whlN c b n) else .nx ρ h) ≠ .stuck := e
    show ((c ρ h).out ρ fun t h => if t = true then (b ρ h).turn (whlN c b (n + 1)) else .nx ρ h) = ((c ρ h).out ρ fun t h => if t = true then (b ρ h).turn (whlN c b n) else .nx ρ h)
    cases hc : c ρ h with
    | stuck => rfl
    | exn _ _ _ => rfl
    | ok t h1 =>
      rw [hc] at e'
      simp only [Res.out_ok] at e' ⊢
      cases t with
      | false => rfl
      | true =>
        rw [if_pos rfl] at e' ⊢
        rw [if_pos rfl]
        cases hb : b ρ h1 with
        | nx ρ2 h2 => rw [hb] at e'; exact whl_more e'
        | ct ρ2 h2 => rw [hb] at e'; exact whl_more e'
        | bk _ _ => rfl
        | rt _ _ => rfl
        | exn _ _ _ _ => rfl
        | stuck => rfl
theorem whl_le {c : Env' → MH → Res Bool} {b : Env' → MH → Out} {n : Nat} {ρ : Env'} {h : MH} (e : whlN c b n ρ h ≠ .stuck) : ∀ k, whlN c b (n + k) ρ h = whlN c b n ρ h
  | 0 => rfl
  | k + 1 => by
    have ih := whl_le e k
    rw [← Nat.add_assoc, whl_more (by rw [ih]; exact e), ih]
theorem whl_eq {c : Env' → MH → Res Bool} {b : Env' → MH → Out} {n : Nat} {ρ : Env'} {h : MH} {o : Out} (e : whlN c b n ρ h = o) (ho : o ≠ .stuck) : whlE c b ρ h = o := by
  have hn : whlN c b n ρ h ≠ .stuck := by rw [e]; exact ho
  unfold whlE
  have ex : ∃ n, whlN c b n ρ h ≠ .stuck := ⟨n, hn⟩
  rw [dif_pos ex]
  have hm := Classical.choose_spec ex
  generalize Classical.choose ex = m at hm ⊢
  rw [← e]
  rcases Nat.le_total m n with q | q
  · obtain ⟨k, rfl⟩ := Nat.exists_eq_add_of_le q
    exact (whl_le hm k).symm
  · obtain ⟨k, rfl⟩ := Nat.exists_eq_add_of_le q
    exact whl_le hn k
theorem whlN_step {c : Env' → MH → Res Bool} {b : Env' → MH → Out} {n : Nat} {ρ : Env'} {h : MH} : whlN c b (n + 1) ρ h = (c ρ h).out ρ fun t h => if t = true then (b ρ h).turn (whlN c b n) else .nx ρ h := rfl
/-! ### comprehensions, loops -/
theorem compL_nil {body : PV → MH → Res (Option PV)} {l : List (Nat × List PV)} {acc : List PV} {h : MH} (hc : chk l h) : compL body l [] acc h = .ok acc h := by
  unfold compL
  rw [if_pos hc]
def addO (acc : List PV) (o : Option PV) : List PV := match o with
  | none => acc
  | some y => acc ++ [y]
theorem compL_cons {body : PV → MH → Res (Option PV)} {l : List (Nat × List PV)} {x : PV} {xs acc : List PV} {h h1 : MH} {o : Option PV} (hc : chk l h) (hb : body x h = .ok o h1) : compL body l (x :: xs) acc h = compL body l xs (addO acc o) h1 := by
  conv => lhs; unfold compL
  rw [if_pos hc, hb]
  rfl
theorem compL_none {body : PV → MH → Res (Option PV)} {l : List (Nat × List PV)} {h : MH} (hc : chk l h) : ∀ {xs acc : List PV}, (∀ x ∈ xs, body x h = .ok none h) → compL body l xs acc h = .ok acc h
  | [], acc, _ => compL_nil hc
  | x :: xs, acc, hb => by
    rw [compL_cons hc (hb x List.mem_cons_self)]
    show compL body l xs acc h = _
    exact compL_none hc fun y hy => hb y (List.mem_cons_of_mem _ hy)
/-- each item gives one -/
theorem compL_map {body : PV → MH → Res (Option PV)} {l : List (Nat × List PV)} {h : MH} (hc : chk l h) {g : PV → PV} : ∀ {xs acc : List PV}, (∀ x ∈ xs, body x h = .ok (some (g x)) h) → compL body l xs acc h = .ok (acc ++ xs.map g) h
  | [], acc, _ => by rw [compL_nil hc]; simp
  | x :: xs, acc, hb => by
    rw [compL_cons hc (hb x List.mem_cons_self)]
    show compL body l xs (acc ++ [g x]) h = _
    rw [compL_map hc fun y hy => hb y (List.mem_cons_of_mem _ hy)]
    simp
theorem chk_nil {h : MH} : chk [] h := fun p hp => by cases hp
theorem forL_nil {body : PV → Env' → MH → Out} {l : List (Nat × List PV)} {ρ : Env'} {h : MH} (hc : chk l h) : forL body l [] ρ h = .nx ρ h := by
  unfold forL
  rw [if_pos hc]
theorem forL_cons {body : PV → Env' → MH → Out} {l : List (Nat × List PV)} {x : PV} {xs : List PV} {ρ : Env'} {h : MH} (hc : chk l h) : forL body l (x :: xs) ρ h = (body x ρ h).turn (forL body l xs) := by
  conv => lhs; unfold forL
  rw [if_pos hc]
theorem ixN_nat {n i : Nat} (h : i < n) : ixN n (i : Int) = some i := by
  unfold ixN
  rw [if_pos (by omega), if_pos (by omega)]
  rfl
theorem atI_nat {α : Type} {xs : List α} {i : Nat} (h : i < xs.length) : atI xs (i : Int) = some xs[i] := by
  unfold atI
  rw [ixN_nat h]
  exact List.getElem?_eq_getElem h

@[simp] theorem forL_nil0 {body : PV → Env' → MH → Out} {ρ : Env'} {h : MH} : forL body [] [] ρ h = .nx ρ h := forL_nil chk_nil
@[simp] theorem forL_cons0 {body : PV → Env' → MH → Out} {x : PV} {xs : List PV} {ρ : Env'} {h : MH} : forL body [] (x :: xs) ρ h = (body x ρ h).turn (forL body [] xs) := forL_cons chk_nil
/-- a call by names -/
theorem call_kw {P : Pg} {f : Str} {d : Fn} {n : Nat} {xs ys as : List PV} {ks : List Str} {h : MH} (hf : P.fns f = some d) (ha : argsOf d.ps xs ks ys = some as) (hl : as.length = d.ps.length) : call P (n + 1) f xs ks ys h = call P (n + 1) f as [] [] h := by
  rw [call_at hf ha, call_at hf (args_pos hl)]

section
variable {P : Pg} {cl : Calls} {elt : Ae} {g : Ag} {it : Ai} {ifs : Ao} {own : List (Str × Nat)} {ρ : Env'} {h h' : MH} {s : Src}
/-- a comprehension that takes none -/
theorem comp_none (hi : evi P cl it ρ h = .ok s h') (hc : chk s.1 h') (hb : ∀ x ∈ s.2, ∃ ρ', bindG g x (wipeP ρ (own.map (·.2))) h' = some ρ' ∧ evIfs P cl ifs ρ' h' = .ok false h') : ev P cl (.comp false elt g it ifs own) ρ h = .ok (.lst []) h' := by
  have e : ev P cl (.comp false elt g it ifs own) ρ h = (evi P cl it ρ h).bind fun s h => (compL (fun x h => Res.nox (match bindG g x (wipeP ρ (own.map (·.2))) h with
      | some ρ' => (evIfs P cl ifs ρ' h).bind fun b h => if b = true then (ev P cl elt ρ' h).bind fun y h => .ok (some y) h else .ok none h
      | none => .stuck)) s.1 s.2 [] h).bind fun xs h => if xs.length ≤ sizeLine then mkLst false xs h else .stuck := rfl
  rw [e, hi, Res.bind_ok, compL_none hc fun x hx => ?_]
  · rw [Res.bind_ok, if_pos (by rw [List.length_nil]; exact Nat.zero_le _)]
    rfl
  · obtain ⟨ρ', e1, e2⟩ := hb x hx
    rw [e1]
    dsimp only
    rw [e2, Res.bind_ok, if_neg Bool.false_ne_true]
    rfl
/-- a comprehension that takes all -/
theorem comp_map {f : PV → PV} (hi : evi P cl it ρ h = .ok s h') (hc : chk s.1 h') (hl : s.2.length ≤ sizeLine) (hb : ∀ x ∈ s.2, ∃ ρ', bindG g x (wipeP ρ (own.map (·.2))) h' = some ρ' ∧ evIfs P cl ifs ρ' h' = .ok true h' ∧ ev P cl elt ρ' h' = .ok (f x) h') : ev P cl (.comp false elt g it ifs own) ρ h = .ok (.lst (s.2.map f)) h' := by
  have e : ev P cl (.comp false elt g it ifs own) ρ h = (evi P cl it ρ h).bind fun s h => (compL (fun x h => Res.nox (match bindG g x (wipeP ρ (own.map (·.2))) h with
      | some ρ' => (evIfs P cl ifs ρ' h).bind fun b h => if b = true then (ev P cl elt ρ' h).bind fun y h => .ok (some y) h else .ok none h
      | none => .stuck)) s.1 s.2 [] h).bind fun xs h => if xs.length ≤ sizeLine then mkLst false xs h else .stuck := rfl
  rw [e, hi, Res.bind_ok, compL_map (g := f) hc fun x hx => ?_]
  · rw [Res.bind_ok, List.nil_append, if_pos (by rw [List.length_map]; exact hl)]
    rfl
  · obtain ⟨ρ', e1, e2, e3⟩ := hb x hx
    rw [e1]
    dsimp only
    rw [e2, Res.bind_ok, if_pos rfl, e3]
    rfl
end

theorem rng1 {P : Pg} {cl : Calls} {e : Ae} {ρ : Env'} {h h' : MH} {n : Int} (he : ev P cl e ρ h = .ok (.int n) h') (h1 : -(2 ^ 62) ≤ n ∧ n < 2 ^ 62) : evi P cl (.range1 e) ρ h = .ok ([], (List.range n.toNat).map fun (k : Nat) => PV.int (k : Int)) h' := by
  have e1 : evi P cl (.range1 e) ρ h = (ev P cl e ρ h).bind fun x h => match x with
    | .int j => if -(2 ^ 62) ≤ j ∧ j < 2 ^ 62 then .ok ([], (List.range j.toNat).map fun (k : Nat) => PV.int (k : Int)) h else .stuck
    | _ => .stuck := rfl
  rw [e1, he, Res.bind_ok]
  dsimp only
  rw [if_pos h1]
theorem rng2 {P : Pg} {cl : Calls} {a b : Ae} {ρ : Env'} {h h' h2 : MH} {i j : Int} (ha : ev P cl a ρ h = .ok (.int i) h') (hb : ev P cl b ρ h' = .ok (.int j) h2) (h1 : -(2 ^ 62) ≤ i ∧ i < 2 ^ 62 ∧ -(2 ^ 62) ≤ j ∧ j < 2 ^ 62) : evi P cl (.range2 a b) ρ h = .ok ([], (List.range (j - i).toNat).map fun (k : Nat) => PV.int (i + (k : Int))) h2 := by
  have e1 : evi P cl (.range2 a b) ρ h = (ev P cl a ρ h).bind fun x h => (ev P cl b ρ h).bind fun y h => match x, y with
    | .int i, .int j => if -(2 ^ 62) ≤ i ∧ i < 2 ^ 62 ∧ -(2 ^ 62) ≤ j ∧ j < 2 ^ 62 then .ok ([], (List.range (j - i).toNat).map fun (k : Nat) => PV.int (i + (k : Int))) h else .stuck
    | _, _ => .stuck := rfl
  rw [e1, ha, Res.bind_ok, hb, Res.bind_ok]
  dsimp only
  rw [if_pos h1]
theorem evi_ex {P : Pg} {cl : Calls} {e : Ae} {ρ : Env'} {h : MH} : evi P cl (.ex e) ρ h = (ev P cl e ρ h).bind fun x h => match src x h with
    | some s => .ok s h
    | none => .stuck := rfl
end Mx

end

section
set_option Elab.async false
set_option linter.all false
set_option maxRecDepth 100000
set_option maxHeartbeats 8000000
/-! The runs' equations. -/
namespace Mx
open PySem PySem.Spec PyProof.Rows L2
theorem q_ev_v {P : Pg} {cl : Calls} {i ρ h} : ev P cl (.v i) ρ h = match ρ[i]? with
    | some (some x) => .ok x h
    | _ => .stuck := Eq.trans rfl rfl
theorem q_ev_non {P : Pg} {cl : Calls} {u1 h} : ev P cl .non u1 h = .ok .non h := Eq.trans rfl rfl
theorem q_ev_bl {P : Pg} {cl : Calls} {b u1 h} : ev P cl (.bl b) u1 h = .ok (.bl b) h := Eq.trans rfl rfl
theorem q_ev_int {P : Pg} {cl : Calls} {i u1 h} : ev P cl (.int i) u1 h = .ok (.int i) h := Eq.trans rfl rfl
theorem q_ev_str {P : Pg} {cl : Calls} {x u1 h} : ev P cl (.str x) u1 h = .ok (.str x) h := Eq.trans rfl rfl
theorem q_ev_con {P : Pg} {cl : Calls} {x u1 h} : ev P cl (.con x) u1 h = match P.con x with
    | some v => .ok v h
    | none => .stuck := Eq.trans rfl rfl
theorem q_ev_tup {P : Pg} {cl : Calls} {es ρ h} : ev P cl (.tup es) ρ h = (evs P cl es ρ h).bind fun xs h => .ok (.tup xs) h := Eq.trans rfl rfl
theorem q_ev_lst {P : Pg} {cl : Calls} {r es ρ h} : ev P cl (.lst r es) ρ h = (evs P cl es ρ h).bind fun xs h => mkLst r xs h := Eq.trans rfl rfl
theorem q_ev_bin {P : Pg} {cl : Calls} {op r a b ρ h} : ev P cl (.bin op r a b) ρ h = (ev P cl a ρ h).bind fun x h => (ev P cl b ρ h).bind fun y h => binop op r x y h := Eq.trans rfl rfl
theorem q_ev_neg {P : Pg} {cl : Calls} {a ρ h} : ev P cl (.neg a) ρ h = (ev P cl a ρ h).bind fun x h => match x with
    | .int i => .ok (.int (-i)) h
    | _ => .stuck := Eq.trans rfl rfl
theorem q_ev_not {P : Pg} {cl : Calls} {a ρ h} : ev P cl (.not a) ρ h = (ev P cl a ρ h).bind fun x h => ofB ((truthy h x).map (!·)) h := Eq.trans rfl rfl
theorem q_ev_cmp {P : Pg} {cl : Calls} {op a b ρ h} : ev P cl (.cmp op a b) ρ h = (ev P cl a ρ h).bind fun x h => (ev P cl b ρ h).bind fun y h => ofB (cmpop op x y h) h := Eq.trans rfl rfl
theorem q_ev_chain {P : Pg} {cl : Calls} {op op' a b c ρ h} : ev P cl (.chain op op' a b c) ρ h = (ev P cl a ρ h).bind fun x h => (ev P cl b ρ h).bind fun y h => match cmpop op x y h with
    | some true => (ev P cl c ρ h).bind fun z h => ofB (cmpop op' y z h) h
    | some false => .ok (.bl false) h
    | none => .stuck := Eq.trans rfl rfl
theorem q_ev_and {P : Pg} {cl : Calls} {es ρ h} : ev P cl (.and es) ρ h = evAnd P cl es ρ h := Eq.trans rfl rfl
theorem q_ev_or {P : Pg} {cl : Calls} {es ρ h} : ev P cl (.or es) ρ h = evOr P cl es ρ h := Eq.trans rfl rfl
theorem q_ev_ifx {P : Pg} {cl : Calls} {c a b ρ h} : ev P cl (.ifx c a b) ρ h = (ev P cl c ρ h).bind fun x h => match truthy h x with
    | some true => ev P cl a ρ h
    | some false => ev P cl b ρ h
    | none => .stuck := Eq.trans rfl rfl
theorem q_ev_ix {P : Pg} {cl : Calls} {a i ρ h} : ev P cl (.ix a i) ρ h = (ev P cl a ρ h).bind fun x h => (ev P cl i ρ h).bind fun y h => ixop x y h := Eq.trans rfl rfl
theorem q_ev_sl {P : Pg} {cl : Calls} {r a lo hi ρ h} : ev P cl (.sl r a lo hi) ρ h = (ev P cl a ρ h).bind fun x h => (evo P cl lo ρ h).bind fun l h => (evo P cl hi ρ h).bind fun u h => slop r x l u h := Eq.trans rfl rfl
theorem q_ev_call {P : Pg} {cl : Calls} {f es ks kes ρ h} : ev P cl (.call f es ks kes) ρ h = (evs P cl es ρ h).bind fun xs h => (evs P cl kes ρ h).bind fun ys h => cl f xs ks ys h := Eq.trans rfl rfl
theorem q_ev_blt {P : Pg} {cl : Calls} {f r es ρ h} : ev P cl (.blt f r es) ρ h = (evs P cl es ρ h).bind fun xs h => bltop f r xs h := Eq.trans rfl rfl
theorem q_ev_isi {P : Pg} {cl : Calls} {a ts ρ h} : ev P cl (.isi a ts) ρ h = (ev P cl a ρ h).bind fun x h => ofB (isiop x ts h) h := Eq.trans rfl rfl
theorem q_ev_met {P : Pg} {cl : Calls} {m r o es ρ h} : ev P cl (.met m r o es) ρ h = (ev P cl o ρ h).bind fun x h => if metok m es.len x h = true then (evs P cl es ρ h).bind fun xs h => metop m r x xs h else .stuck := Eq.trans rfl rfl
theorem q_ev_tupS {P : Pg} {cl : Calls} {es ρ h} : ev P cl (.tupS es) ρ h = (evs P cl es ρ h).bind fun xs h => if xs.length ≤ sizeLine then .ok (.tup xs) h else .stuck := Eq.trans rfl rfl
theorem q_ev_lstS {P : Pg} {cl : Calls} {r es ρ h} : ev P cl (.lstS r es) ρ h = (evs P cl es ρ h).bind fun xs h => if xs.length ≤ sizeLine then mkLst r xs h else .stuck := Eq.trans rfl rfl
theorem q_ev_rev {P : Pg} {cl : Calls} {r a ρ h} : ev P cl (.rev r a) ρ h = (ev P cl a ρ h).bind fun x h => revop r x h := Eq.trans rfl rfl
theorem q_ev_dnew {P : Pg} {cl : Calls} {ps ρ h} : ev P cl (.dnew ps) ρ h = (evD P cl ps ρ h).bind fun ps h => mkDic (kmerge [] ps) h := Eq.trans rfl rfl
theorem q_ev_dzip {P : Pg} {cl : Calls} {a b ρ h} : ev P cl (.dzip a b) ρ h = (ev P cl a ρ h).bind fun x h => (ev P cl b ρ h).bind fun y h => dzipop x y h := Eq.trans rfl rfl
theorem q_ev_fnv {P : Pg} {cl : Calls} {f u1 h} : ev P cl (.fnv f) u1 h = if (P.fns f).isSome = true then .ok (.fn f) h else .stuck := Eq.trans rfl rfl
theorem q_ev_calv {P : Pg} {cl : Calls} {i es ρ h} : ev P cl (.calv i es) ρ h = match ρ[i]? with
    | some (some (.fn f)) => if (P.fns f).isSome = true then (evs P cl es ρ h).bind fun xs h => cl f xs [] [] h else .stuck
    | _ => .stuck := Eq.trans rfl rfl
theorem q_ev_comp {P : Pg} {cl : Calls} {r elt g it ifs own ρ h} : ev P cl (.comp r elt g it ifs own) ρ h = (evi P cl it ρ h).bind fun s h => (compL (fun x h => Res.nox (match bindG g x (wipeP ρ (own.map (·.2))) h with
      | some ρ' => (evIfs P cl ifs ρ' h).bind fun b h => if b = true then (ev P cl elt ρ' h).bind fun y h => .ok (some y) h else .ok none h
      | none => .stuck)) s.1 s.2 [] h).bind fun xs h => if xs.length ≤ sizeLine then mkLst r xs h else .stuck := Eq.trans rfl rfl
theorem q_ev_val {P : Pg} {cl : Calls} {i ρ h} : ev P cl (.val i) ρ h = match ρ[i]? with
    | some (some (.exn c v)) => if P.exc.contains c = true then .ok v h else .stuck
    | _ => .stuck := Eq.trans rfl rfl
theorem q_evs_nil {P : Pg} {cl : Calls} {u1 h} : evs P cl .nil u1 h = .ok [] h := Eq.trans rfl rfl
theorem q_evs_cons {P : Pg} {cl : Calls} {e es ρ h} : evs P cl (.cons e es) ρ h = (ev P cl e ρ h).bind fun x h => (evs P cl es ρ h).bind fun xs h => .ok (x :: xs) h := Eq.trans rfl rfl
theorem q_evs_star {P : Pg} {cl : Calls} {e es ρ h} : evs P cl (.star e es) ρ h = (ev P cl e ρ h).bind fun x h => match items h x with
    | some ys => (evs P cl es ρ h).bind fun xs h => .ok (ys ++ xs) h
    | none => .stuck := Eq.trans rfl rfl
theorem q_evD_nil {P : Pg} {cl : Calls} {u1 h} : evD P cl .nil u1 h = .ok [] h := Eq.trans rfl rfl
theorem q_evD_cons {P : Pg} {cl : Calls} {k v ps ρ h} : evD P cl (.cons k v ps) ρ h = (ev P cl k ρ h).bind fun x h => (ev P cl v ρ h).bind fun y h => match keyOf x with
    | some j => (evD P cl ps ρ h).bind fun qs h => .ok ((j, y) :: qs) h
    | none => .stuck := Eq.trans rfl rfl
theorem q_evAnd_nil {P : Pg} {cl : Calls} {u1 u2} : evAnd P cl .nil u1 u2 = .stuck := Eq.trans rfl rfl
theorem q_evAnd_star {P : Pg} {cl : Calls} {w1 w2 u1 u2} : evAnd P cl (.star w1 w2) u1 u2 = .stuck := Eq.trans rfl rfl
theorem q_evAnd_cons {P : Pg} {cl : Calls} {e ρ h} : evAnd P cl (.cons e .nil) ρ h = ev P cl e ρ h := Eq.trans rfl rfl
theorem q_evAnd_cons2 {P : Pg} {cl : Calls} {e e2 es ρ h} : evAnd P cl (.cons e (.cons e2 es)) ρ h = (ev P cl e ρ h).bind fun x h => match truthy h x with
    | some true => evAnd P cl (.cons e2 es) ρ h
    | some false => .ok x h
    | none => .stuck := Eq.trans rfl rfl
theorem q_evOr_nil {P : Pg} {cl : Calls} {u1 u2} : evOr P cl .nil u1 u2 = .stuck := Eq.trans rfl rfl
theorem q_evOr_star {P : Pg} {cl : Calls} {w1 w2 u1 u2} : evOr P cl (.star w1 w2) u1 u2 = .stuck := Eq.trans rfl rfl
theorem q_evOr_cons {P : Pg} {cl : Calls} {e ρ h} : evOr P cl (.cons e .nil) ρ h = ev P cl e ρ h := Eq.trans rfl rfl
theorem q_evOr_cons2 {P : Pg} {cl : Calls} {e e2 es ρ h} : evOr P cl (.cons e (.cons e2 es)) ρ h = (ev P cl e ρ h).bind fun x h => match truthy h x with
    | some true => .ok x h
    | some false => evOr P cl (.cons e2 es) ρ h
    | none => .stuck := Eq.trans rfl rfl
theorem q_evIfs_none {P : Pg} {cl : Calls} {u1 h} : evIfs P cl .none u1 h = .ok true h := Eq.trans rfl rfl
theorem q_evIfs_some {P : Pg} {cl : Calls} {e ρ h} : evIfs P cl (.some e) ρ h = (ev P cl e ρ h).bind fun x h => match truthy h x with
    | some b => .ok b h
    | none => .stuck := Eq.trans rfl rfl
theorem q_evo_none {P : Pg} {cl : Calls} {u1 h} : evo P cl .none u1 h = .ok none h := Eq.trans rfl rfl
theorem q_evo_some {P : Pg} {cl : Calls} {e ρ h} : evo P cl (.some e) ρ h = (ev P cl e ρ h).bind fun x h => match x with
    | .int i => .ok (some i) h
    | _ => .stuck := Eq.trans rfl rfl
theorem q_evi_ex {P : Pg} {cl : Calls} {e ρ h} : evi P cl (.ex e) ρ h = (ev P cl e ρ h).bind fun x h => match src x h with
    | some s => .ok s h
    | none => .stuck := Eq.trans rfl rfl
theorem q_evi_range1 {P : Pg} {cl : Calls} {e ρ h} : evi P cl (.range1 e) ρ h = (ev P cl e ρ h).bind fun x h => match x with
    | .int j => if -(2 ^ 62) ≤ j ∧ j < 2 ^ 62 then .ok ([], (List.range j.toNat).map fun (k : Nat) => PV.int (k : Int)) h else .stuck
    | _ => .stuck := Eq.trans rfl rfl
theorem q_evi_range2 {P : Pg} {cl : Calls} {a b ρ h} : evi P cl (.range2 a b) ρ h = (ev P cl a ρ h).bind fun x h => (ev P cl b ρ h).bind fun y h => match x, y with
    | .int i, .int j => if -(2 ^ 62) ≤ i ∧ i < 2 ^ 62 ∧ -(2 ^ 62) ≤ j ∧ j < 2 ^ 62 then .ok ([], (List.range (j - i).toNat).map fun (k : Nat) => PV.int (i + (k : Int))) h else .stuck
    | _, _ => .stuck := Eq.trans rfl rfl
theorem q_evi_range3 {P : Pg} {cl : Calls} {a b c ρ h} : evi P cl (.range3 a b c) ρ h = (ev P cl a ρ h).bind fun x h => (ev P cl b ρ h).bind fun y h => (ev P cl c ρ h).bind fun z h => match x, y, z with
    | .int i, .int j, .int k => if k ≠ 0 ∧ k.natAbs < 1073741824 ∧ Builtin.Range.small i j k = true then .ok ([], (List.range (Builtin.Range.rangeSize i j k).toNat).map fun (t : Nat) => PV.int (i + (t : Int) * k)) h else .stuck
    | _, _, _ => .stuck := Eq.trans rfl rfl
theorem q_evi_zip2 {P : Pg} {cl : Calls} {a b ρ h} : evi P cl (.zip2 a b) ρ h = (ev P cl a ρ h).bind fun x h => (ev P cl b ρ h).bind fun y h => match src x h, src y h with
    | some s, some t => if isStr x = false ∧ isStr y = false then .ok (s.1 ++ t.1, (s.2.zip t.2).map fun p => .tup [p.1, p.2]) h else .stuck
    | _, _ => .stuck := Eq.trans rfl rfl
theorem q_evi_zip3 {P : Pg} {cl : Calls} {a b c ρ h} : evi P cl (.zip3 a b c) ρ h = (ev P cl a ρ h).bind fun x h => (ev P cl b ρ h).bind fun y h => (ev P cl c ρ h).bind fun z h => match src x h, src y h, src z h with
    | some s, some t, some u => .ok (s.1 ++ t.1 ++ u.1, (s.2.zip (t.2.zip u.2)).map fun p => .tup [p.1, p.2.1, p.2.2]) h
    | _, _, _ => .stuck := Eq.trans rfl rfl
theorem q_evi_enum {P : Pg} {cl : Calls} {a ρ h} : evi P cl (.enum a) ρ h = (ev P cl a ρ h).bind fun x h => match src x h with
    | some s => .ok (s.1, s.2.zipIdx.map fun p => .tup [.int p.2, p.1]) h
    | none => .stuck := Eq.trans rfl rfl
theorem q_evi_rev {P : Pg} {cl : Calls} {a ρ h} : evi P cl (.rev a) ρ h = (ev P cl a ρ h).bind fun x h => match src x h with
    | some s => .ok (s.1, s.2.reverse) h
    | none => .stuck := Eq.trans rfl rfl
theorem q_run1_ex {P : Pg} {cl : Calls} {e ρ h} : run1 P cl (.ex e) ρ h = (ev P cl e ρ h).out ρ fun _ h => .nx ρ h := Eq.trans rfl rfl
theorem q_run1_set {P : Pg} {cl : Calls} {g e ρ h} : run1 P cl (.set g e) ρ h = (ev P cl e ρ h).out ρ fun x h => match bindG g x ρ h with
    | some ρ' => .nx ρ' h
    | none => .stuck := Eq.trans rfl rfl
theorem q_run1_put {P : Pg} {cl : Calls} {o i e ρ h} : run1 P cl (.put o i e) ρ h = (ev P cl e ρ h).out ρ fun x h => (ev P cl o ρ h).out ρ fun a h => (ev P cl i ρ h).out ρ fun k h => match putop a k x h with
    | some h => .nx ρ h
    | none => .stuck := Eq.trans rfl rfl
theorem q_run1_aug {P : Pg} {cl : Calls} {i op e ρ h} : run1 P cl (.aug i op e) ρ h = match ρ[i]? with
    | some (some x) => (ev P cl e ρ h).out ρ fun y h => (augop op x y h).out ρ fun z h => .nx (ρ.set i (some z)) h
    | _ => .stuck := Eq.trans rfl rfl
theorem q_run1_augs {P : Pg} {cl : Calls} {o i op e ρ h} : run1 P cl (.augs o i op e) ρ h = (ev P cl o ρ h).out ρ fun a h => (ev P cl i ρ h).out ρ fun k h => (ixop a k h).out ρ fun x h => (ev P cl e ρ h).out ρ fun y h => (augop op x y h).out ρ fun z h => match putop a k z h with
    | some h => .nx ρ h
    | none => .stuck := Eq.trans rfl rfl
theorem q_run1_ite {P : Pg} {cl : Calls} {c a b ρ h} : run1 P cl (.ite c a b) ρ h = (tst P cl c ρ h).out ρ fun t h => if t = true then runs P cl a ρ h else runs P cl b ρ h := Eq.trans rfl rfl
theorem q_run1_whl {P : Pg} {cl : Calls} {c b ρ h} : run1 P cl (.whl c b) ρ h = whlE (tst P cl c) (runs P cl b) ρ h := Eq.trans rfl rfl
theorem q_run1_for {P : Pg} {cl : Calls} {g it b ρ h} : run1 P cl (.for g it b) ρ h = (evi P cl it ρ h).out ρ fun s h => forL (fun x ρ h => match bindG g x ρ h with
    | some ρ' => runs P cl b ρ' h
    | none => .stuck) s.1 s.2 ρ h := Eq.trans rfl rfl
theorem q_run1_ret {P : Pg} {cl : Calls} {e ρ h} : run1 P cl (.ret e) ρ h = (ev P cl e ρ h).out ρ fun x h => .rt x h := Eq.trans rfl rfl
theorem q_run1_retN {P : Pg} {cl : Calls} {u1 h} : run1 P cl .retN u1 h = .rt .non h := Eq.trans rfl rfl
theorem q_run1_rais {P : Pg} {cl : Calls} {c e w3 ρ h} : run1 P cl (.rais c e w3) ρ h = (ev P cl e ρ h).out ρ fun x h => .exn c x ρ h := Eq.trans rfl rfl
theorem q_run1_try {P : Pg} {cl : Calls} {b hs ρ h} : run1 P cl (.try b hs) ρ h = match runs P cl b ρ h with
    | .exn c v ρ h => if P.exc.contains c = true then runH P cl hs c v ρ h else .stuck
    | o => o := Eq.trans rfl rfl
theorem q_run1_brk {P : Pg} {cl : Calls} {ρ h} : run1 P cl .brk ρ h = .bk ρ h := Eq.trans rfl rfl
theorem q_run1_cnt {P : Pg} {cl : Calls} {ρ h} : run1 P cl .cnt ρ h = .ct ρ h := Eq.trans rfl rfl
theorem q_run1_pas {P : Pg} {cl : Calls} {ρ h} : run1 P cl .pas ρ h = .nx ρ h := Eq.trans rfl rfl
theorem q_runs_nil {P : Pg} {cl : Calls} {ρ h} : runs P cl .nil ρ h = .nx ρ h := Eq.trans rfl rfl
theorem q_runs_cons {P : Pg} {cl : Calls} {s ss ρ h} : runs P cl (.cons s ss) ρ h = (run1 P cl s ρ h).seq (runs P cl ss) := Eq.trans rfl rfl
theorem q_runH_nil {P : Pg} {cl : Calls} {c v ρ h} : runH P cl .nil c v ρ h = .exn c v ρ h := Eq.trans rfl rfl
theorem q_runH_cons {P : Pg} {cl : Calls} {t n b hs c v ρ h} : runH P cl (.cons t n b hs) c v ρ h = if subT P.exc c t = true then match n with
      | none => (runs P cl b ρ h).nox
      | some i => if i < ρ.length then (runs P cl b (ρ.set i (some (.exn c v))) h).gone i else .stuck
    else runH P cl hs c v ρ h := Eq.trans rfl rfl
end Mx

end

section
set_option Elab.async false
set_option linter.all false
set_option maxRecDepth 100000
set_option maxHeartbeats 4000000
/-! Lemmas for plain proofs: calls by name, heaps, ends of defs, loops, tables. -/
namespace Mx
open PySem PySem.Spec PyProof.Rows L2
class HasC (P : Pg) (x : Str) (v : outParam PV) : Prop where
  eq : P.con x = some v
class HasE (P : Pg) (xs : outParam (List Str)) : Prop where
  eq : P.exc = xs
class Has (P : Pg) (f : Str) (d : outParam Fn) : Prop where
  eq : P.fns f = some d
theorem call_ge {P : Pg} {f : Str} {d : Fn} [H : Has P f d] {n : Nat} (hn : 1 ≤ n) {xs : List PV} {h : MH} (ha : xs.length = d.ps.length) : call P n f xs [] [] h = body P (call P (n - 1)) d xs h := by
  obtain ⟨k, rfl⟩ : ∃ k, n = k + 1 := ⟨n - 1, by omega⟩
  exact call_at H.eq (args_pos ha)
/-- a call by names -/
theorem kw_ge {P : Pg} {f : Str} {d : Fn} [H : Has P f d] {n : Nat} {xs ys as : List PV} {ks : List Str} {h : MH} (ha : argsOf d.ps xs ks ys = some as) (hl : as.length = d.ps.length) : call P n f xs ks ys h = call P n f as [] [] h := by
  cases n with
  | zero => rfl
  | succ n => exact call_kw H.eq ha hl
/-! ### values without things that change -/
class Dt (v : PV) : Prop where
  b : ∀ n, below n v
class Dts (vs : List PV) : Prop where
  b : ∀ n, belows n vs
instance : Dt .non := ⟨fun _ => trivial⟩
instance (b : Bool) : Dt (.bl b) := ⟨fun _ => trivial⟩
instance (i : Int) : Dt (.int i) := ⟨fun _ => trivial⟩
instance (x : Str) : Dt (.str x) := ⟨fun _ => trivial⟩
instance (f : Str) : Dt (.fn f) := ⟨fun _ => trivial⟩
instance {xs : List PV} [h : Dts xs] : Dt (.tup xs) := ⟨fun n => (h.b n : belows n xs)⟩
instance {xs : List PV} [h : Dts xs] : Dt (.lst xs) := ⟨fun n => (h.b n : belows n xs)⟩
instance {c : Str} {x : PV} [h : Dt x] : Dt (.exn c x) := ⟨fun n => (h.b n : below n x)⟩
instance : Dts [] := ⟨fun _ => trivial⟩
instance {x : PV} {xs : List PV} [h : Dt x] [t : Dts xs] : Dts (x :: xs) := ⟨fun n => ⟨h.b n, t.b n⟩⟩
theorem dts_all {xs : List PV} (h : ∀ x ∈ xs, Dt x) : Dts xs := ⟨fun n => belows_mem fun x hx => (h x hx).b n⟩
instance {α : Type} {f : α → PV} {l : List α} [h : ∀ a, Dt (f a)] : Dts (l.map f) := dts_all fun x hx => by
  obtain ⟨a, _, rfl⟩ := List.mem_map.mp hx
  exact h a
instance {xs ys : List PV} [a : Dts xs] [b : Dts ys] : Dts (xs ++ ys) := dts_all fun x hx => ⟨fun n => by
  rcases List.mem_append.mp hx with h | h
  · exact belows_of (a.b n) x h
  · exact belows_of (b.b n) x h⟩
theorem Dt.nref {v : PV} [h : Dt v] : ∀ k, v ≠ .ref k := fun k e => by
  subst e
  exact Nat.not_lt_zero _ (h.b 0)
/-! ### ends -/
theorem leave_dt {h h' : MH} {v : PV} [D : Dt v] (hl : h.length ≤ h'.length) (ht : tidy h h') : leave h v h' = (v, h'.take h.length) := by
  unfold leave
  rw [thaw_of D.nref, if_pos ⟨D.b _, ht, hl⟩]
theorem leave_app {h e : MH} {v : PV} [D : Dt v] : leave h v (h ++ e) = (v, h) := by
  have : (h ++ e).take h.length = h := by simp
  exact leave_drop (by simp) this D.nref (D.b _)
theorem end_rt {h : MH} {v : PV} [Dt v] : (Out.rt v h).res false h = .ok v h := res_rt (leave_self Dt.nref)
theorem end_rt_app {h e : MH} {v : PV} [Dt v] : (Out.rt v (h ++ e)).res false h = .ok v h := by
  show Res.ok (leave h v (h ++ e)).1 (leave h v (h ++ e)).2 = _
  rw [leave_app]
theorem end_nx {h : MH} {ρ : Env'} : (Out.nx ρ h).res false h = .ok .non h := res_nx (leave_non h)
theorem end_nx_app {h e : MH} {ρ : Env'} : (Out.nx ρ (h ++ e)).res false h = .ok .non h := by
  show Res.ok (leave h .non (h ++ e)).1 (leave h .non (h ++ e)).2 = _
  rw [leave_app]
theorem end_exn {h : MH} {ρ : Env'} {c : Str} {v : PV} [Dt v] : (Out.exn c v ρ h).res false h = .exn c v h := res_exn (leave_self Dt.nref)
theorem end_exn_app {h e : MH} {ρ : Env'} {c : Str} {v : PV} [Dt v] : (Out.exn c v ρ (h ++ e)).res false h = .exn c v h := by
  show Res.exn c (leave h v (h ++ e)).1 (leave h v (h ++ e)).2 = _
  rw [leave_app]
/-- a new list that is told is frozen -/
theorem end_lst_app {h e : MH} {xs : List PV} {k : Nat} [D : Dts xs] (hk : h.length ≤ k) (hx : (h ++ e)[k]? = some (.lst xs)) : (Out.rt (.ref k) (h ++ e)).res false h = .ok (.lst xs) h := by
  have et : thaw h.length (h ++ e) (.ref k) = .lst xs := by
    show (if k < h.length then PV.ref k else match (h ++ e)[k]? with
      | some (.lst xs) => .lst xs
      | some (.dic ps) => .dic (ps.map (·.1)) (ps.map (·.2))
      | some (.fdic ps) => .dic (ps.map (·.1)) (ps.map (·.2))
      | _ => .ref k) = _
    rw [if_neg (by omega), hx]
  have hd : tidy h (h ++ e) := fun n o hn q => .inl (by rwa [List.getElem?_append_left hn] at q)
  show Res.ok (leave h (.ref k) (h ++ e)).1 (leave h (.ref k) (h ++ e)).2 = _
  unfold leave
  rw [et, if_pos ⟨(D.b _ : belows _ xs), hd, by simp⟩]
  simp
theorem end_dic_app {h e : MH} {ps : List (Key × PV)} {k : Nat} [D : Dts (ps.map (·.2))] (hk : h.length ≤ k) (hx : (h ++ e)[k]? = some (.dic ps)) : (Out.rt (.ref k) (h ++ e)).res false h = .ok (.dic (ps.map (·.1)) (ps.map (·.2))) h := by
  have et : thaw h.length (h ++ e) (.ref k) = .dic (ps.map (·.1)) (ps.map (·.2)) := by
    show (if k < h.length then PV.ref k else match (h ++ e)[k]? with
      | some (.lst xs) => .lst xs
      | some (.dic ps) => .dic (ps.map (·.1)) (ps.map (·.2))
      | some (.fdic ps) => .dic (ps.map (·.1)) (ps.map (·.2))
      | _ => .ref k) = _
    rw [if_neg (by omega), hx]
  have hd : tidy h (h ++ e) := fun n o hn q => .inl (by rwa [List.getElem?_append_left hn] at q)
  show Res.ok (leave h (.ref k) (h ++ e)).1 (leave h (.ref k) (h ++ e)).2 = _
  unfold leave
  rw [et, if_pos ⟨(D.b _ : belows _ (ps.map (·.2))), hd, by simp⟩]
  simp
/-! ### worlds that differ at one place -/
/-- h' is h but for what stands at n, which is of the kind I -/
structure Chg (I : MO → Prop) (n : Nat) (h h' : MH) : Prop where
  len : h'.length = h.length
  same : ∀ m, m ≠ n → h'[m]? = h[m]?
  at_ : ∃ o, h'[n]? = some o ∧ I o
section
variable {I : MO → Prop} {n : Nat} {h h1 h2 : MH}
theorem Chg.refl {o : MO} (e : h[n]? = some o) (i : I o) : Chg I n h h := ⟨rfl, fun _ _ => rfl, o, e, i⟩
theorem Chg.trans (a : Chg I n h h1) (b : Chg I n h1 h2) : Chg I n h h2 := ⟨b.len.trans a.len, fun m hm => (b.same m hm).trans (a.same m hm), b.at_⟩
theorem Chg.lt (a : Chg I n h h1) : n < h.length := by
  obtain ⟨o, e, _⟩ := a.at_
  rw [← a.len]
  exact (List.getElem?_eq_some_iff.mp e).1
theorem Chg.set {o : MO} (hn : n < h.length) (i : I o) : Chg I n h (h.set n o) := ⟨by simp, fun m hm => List.getElem?_set_ne (Ne.symm hm), o, List.getElem?_set_self hn, i⟩
/-- new things behind -/
theorem Chg.split {e : MH} (a : Chg I n (h ++ e) h1) (hn : n < h.length) : ∃ g, h1 = g ++ e ∧ Chg I n h g := by
  refine ⟨h1.take h.length, ?_, ?_⟩
  · apply List.ext_getElem?
    intro m
    by_cases hm : m < h.length
    · rw [List.getElem?_append_left (by rw [List.length_take, a.len]; simp; omega), List.getElem?_take_of_lt hm]
    · rw [List.getElem?_append_right (by rw [List.length_take, a.len]; simp; omega), a.same m (by omega), List.getElem?_append_right (by omega)]
      congr 1
      rw [List.length_take, a.len]
      simp
  · refine ⟨by rw [List.length_take, a.len]; simp, fun m hm => ?_, ?_⟩
    · by_cases hm2 : m < h.length
      · rw [List.getElem?_take_of_lt hm2, a.same m hm, List.getElem?_append_left hm2]
      · rw [List.getElem?_eq_none (by rw [List.length_take]; omega), List.getElem?_eq_none (by omega)]
    · obtain ⟨o, e1, i⟩ := a.at_
      exact ⟨o, by rw [List.getElem?_take_of_lt hn]; exact e1, i⟩
theorem Chg.app {e : MH} (a : Chg I n h h1) : Chg I n (h ++ e) (h1 ++ e) := by
  refine ⟨by simp [a.len], fun m hm => ?_, ?_⟩
  · by_cases hm2 : m < h.length
    · rw [List.getElem?_append_left hm2, List.getElem?_append_left (by rw [a.len]; exact hm2), a.same m hm]
    · have hl := a.len
      rw [List.getElem?_append_right (by omega), List.getElem?_append_right (by omega), hl]
  · obtain ⟨o, e1, i⟩ := a.at_
    exact ⟨o, by rw [List.getElem?_append_left (List.getElem?_eq_some_iff.mp e1).1]; exact e1, i⟩
theorem Chg.tidy (hI : ∀ o, I o → ∀ k, belowO k o) {e : MH} (a : Chg I n h h1) : Mx.tidy h (h1 ++ e) := fun m o hm q => by
  rw [List.getElem?_append_left (by rw [a.len]; exact hm)] at q
  by_cases hmn : m = n
  · subst hmn
    obtain ⟨o', e1, i⟩ := a.at_
    rw [e1] at q; cases q
    exact .inr (hI _ i _)
  · rw [a.same m hmn] at q
    exact .inl q
theorem Chg.end_rt (hI : ∀ o, I o → ∀ k, belowO k o) {e : MH} {v : PV} [D : Dt v] (a : Chg I n h h1) : (Out.rt v (h1 ++ e)).res false h = .ok v h1 := by
  show Res.ok (leave h v (h1 ++ e)).1 (leave h v (h1 ++ e)).2 = _
  rw [leave_dt (by simp [a.len]) (a.tidy hI)]
  simp [← a.len]
theorem Chg.end_rt0 {v : PV} [D : Dt v] (a : Chg I n h h1) : (Out.rt v h1).res false h = .ok v h1 := res_rt (leave_len a.len Dt.nref)
theorem Chg.end_lst (hI : ∀ o, I o → ∀ k, belowO k o) {e : MH} {xs : List PV} {k : Nat} [D : Dts xs] (a : Chg I n h h1) (hk : h.length ≤ k) (hx : (h1 ++ e)[k]? = some (.lst xs)) : (Out.rt (.ref k) (h1 ++ e)).res false h = .ok (.lst xs) h1 := by
  have et : thaw h.length (h1 ++ e) (.ref k) = .lst xs := by
    show (if k < h.length then PV.ref k else match (h1 ++ e)[k]? with
      | some (.lst xs) => .lst xs
      | some (.dic ps) => .dic (ps.map (·.1)) (ps.map (·.2))
      | some (.fdic ps) => .dic (ps.map (·.1)) (ps.map (·.2))
      | _ => .ref k) = _
    rw [if_neg (by omega), hx]
  show Res.ok (leave h (.ref k) (h1 ++ e)).1 (leave h (.ref k) (h1 ++ e)).2 = _
  unfold leave
  rw [et, if_pos ⟨(D.b _ : belows _ xs), a.tidy hI, by simp [a.len]⟩]
  simp [← a.len]
end
/-! ### heaps -/
@[simp] theorem get_app_len {h : MH} {o : MO} {e : MH} : (h ++ o :: e)[h.length]? = some o := by simp
@[simp] theorem set_app_len {h : MH} {o o' : MO} : (h ++ [o]).set h.length o' = h ++ [o'] := by
  rw [List.set_append_right _ _ (Nat.le_refl _)]; simp
/-! ### loops -/
section
variable {α : Type} {body : PV → Env' → MH → Out} {l : List (Nat × List PV)} {g : α → PV}
/-- a loop by what holds of what is left -/
theorem for_rel (I : List α → Env' → MH → Prop) (hc : ∀ xs ρ h, I xs ρ h → chk l h) (hs : ∀ x xs ρ h, I (x :: xs) ρ h → ∃ ρ' h', (body (g x) ρ h = .nx ρ' h' ∨ body (g x) ρ h = .ct ρ' h') ∧ I xs ρ' h') :
    ∀ (xs : List α) (ρ : Env') (h : MH), I xs ρ h → ∃ ρ' h', forL body l (xs.map g) ρ h = .nx ρ' h' ∧ I [] ρ' h'
  | [], ρ, h, i => ⟨ρ, h, by rw [List.map_nil, forL_nil (hc _ _ _ i)], i⟩
  | x :: xs, ρ, h, i => by
    obtain ⟨ρ1, h1, e, i1⟩ := hs x xs ρ h i
    obtain ⟨ρ2, h2, e2, i2⟩ := for_rel I hc hs xs ρ1 h1 i1
    refine ⟨ρ2, h2, ?_, i2⟩
    rw [List.map_cons, forL_cons (hc _ _ _ i)]
    rcases e with e | e
    · rw [e, Out.turn_nx, e2]
    · rw [e, Out.turn_ct, e2]
/-- a loop that goes on by a step of its state -/
theorem for_fold {σ : Type} {E : σ → Env'} {H : σ → MH} {st : σ → α → σ} (J : List α → σ → Prop) (hc : ∀ s, chk l (H s)) (hs : ∀ x xs s, J (x :: xs) s → body (g x) (E s) (H s) = .nx (E (st s x)) (H (st s x)) ∧ J xs (st s x)) :
    ∀ (xs : List α) (s : σ), J xs s → forL body l (xs.map g) (E s) (H s) = .nx (E (xs.foldl st s)) (H (xs.foldl st s))
  | [], s, _ => by rw [List.map_nil, forL_nil (hc _)]; rfl
  | x :: xs, s, j => by
    obtain ⟨e, j1⟩ := hs x xs s j
    rw [List.map_cons, forL_cons (hc _), e, Out.turn_nx, for_fold J hc hs xs _ j1]
    rfl
/-- nothing is stored -/
theorem for_same {ρ : Env'} {h : MH} (hc : chk l h) : ∀ {xs : List PV}, (∀ x ∈ xs, body x ρ h = .nx ρ h) → forL body l xs ρ h = .nx ρ h
  | [], _ => forL_nil hc
  | x :: xs, e => by
    rw [forL_cons hc, e x List.mem_cons_self, Out.turn_nx, for_same hc fun y hy => e y (List.mem_cons_of_mem _ hy)]
theorem forL_app {xs ys : List PV} {ρ ρ' : Env'} {h h' : MH} (hc' : chk l h') : forL body l xs ρ h = .nx ρ' h' → (∀ x ∈ xs, ∀ ρ h ρ1 h1, body x ρ h ≠ .bk ρ1 h1) → forL body l (xs ++ ys) ρ h = forL body l ys ρ' h' := by
  induction xs generalizing ρ h with
  | nil =>
    intro e _
    unfold forL at e
    split at e
    · cases e; rfl
    · cases e
  | cons x xs ih =>
    intro e hb
    rw [List.cons_append]
    unfold forL at e
    split at e
    · rename_i hc
      rw [forL_cons hc]
      cases e1 : body x ρ h with
      | nx ρ1 h1 => rw [e1, Out.turn_nx] at e; rw [Out.turn_nx]; exact ih e fun y hy => hb y (List.mem_cons_of_mem _ hy)
      | ct ρ1 h1 => rw [e1, Out.turn_ct] at e; rw [Out.turn_ct]; exact ih e fun y hy => hb y (List.mem_cons_of_mem _ hy)
      | bk ρ1 h1 => exact absurd e1 (hb x List.mem_cons_self _ _ _ _)
      | rt v h1 => rw [e1] at e; cases e
      | exn c v ρ1 h1 => rw [e1] at e; cases e
      | stuck => rw [e1] at e; cases e
    · cases e
end
/-! ### comprehensions -/
section
variable {α : Type} {P : Pg} {cl : Calls} {elt : Ae} {gt : Ag} {it : Ai} {ifs : Ao} {own : List (Str × Nat)} {ρ : Env'} {h h' : MH} {l : List (Nat × List PV)} {g : α → PV}
/-- one turn of a comprehension -/
noncomputable abbrev turnC (P : Pg) (cl : Calls) (elt : Ae) (gt : Ag) (ifs : Ao) (own : List (Str × Nat)) (ρ : Env') (x : PV) (h : MH) : Res (Option PV) := match bindG gt x (wipeP ρ (own.map (·.2))) h with
  | some ρ' => (evIfs P cl ifs ρ' h).bind fun b h => if b = true then (ev P cl elt ρ' h).bind fun y h => .ok (some y) h else .ok none h
  | none => .stuck
theorem comp_run {r : Bool} {xs : List PV} : ev P cl (.comp r elt gt it ifs own) ρ h = (evi P cl it ρ h).bind fun s h => (compL (fun x h => (turnC P cl elt gt ifs own ρ x h).nox) s.1 s.2 [] h).bind fun xs h => if xs.length ≤ sizeLine then mkLst r xs h else .stuck := rfl
theorem compL_fm {body : PV → MH → Res (Option PV)} {h : MH} (hc : chk l h) {f : α → Option PV} : ∀ {xs : List α} {acc : List PV}, (∀ x ∈ xs, body (g x) h = .ok (f x) h) → compL body l (xs.map g) acc h = .ok (acc ++ xs.filterMap f) h
  | [], acc, _ => by rw [List.map_nil, compL_nil hc]; simp
  | x :: xs, acc, hb => by
    rw [List.map_cons, compL_cons hc (hb x List.mem_cons_self)]
    rw [compL_fm hc fun y hy => hb y (List.mem_cons_of_mem _ hy)]
    cases e : f x with
    | none => simp [addO, e]
    | some y => simp [addO, e]
/-- a comprehension whose turns change nothing -/
theorem comp_fm {xs : List α} {f : α → Option PV} (hi : evi P cl it ρ h = .ok (l, xs.map g) h') (hc : chk l h') (hl : xs.length ≤ sizeLine) (hb : ∀ x ∈ xs, turnC P cl elt gt ifs own ρ (g x) h' = .ok (f x) h') (r : Bool) :
    ev P cl (.comp r elt gt it ifs own) ρ h = mkLst r (xs.filterMap f) h' := by
  rw [comp_run (xs := []), hi, Res.bind_ok, compL_fm hc (f := f) fun x hx => by rw [hb x hx]; rfl]
  rw [Res.bind_ok, List.nil_append, if_pos (Nat.le_trans (List.length_filterMap_le f xs) hl)]
theorem comp_mp {xs : List α} {f : α → PV} (hi : evi P cl it ρ h = .ok (l, xs.map g) h') (hc : chk l h') (hl : xs.length ≤ sizeLine) (hb : ∀ x ∈ xs, turnC P cl elt gt ifs own ρ (g x) h' = .ok (some (f x)) h') (r : Bool) :
    ev P cl (.comp r elt gt it ifs own) ρ h = mkLst r (xs.map f) h' := by
  rw [comp_fm hi hc hl (f := fun x => some (f x)) hb r]
  congr 1
  induction xs with
  | nil => rfl
  | cons x xs ih => simp
theorem comp_fl {xs : List α} {p : α → Bool} {f : α → PV} (hi : evi P cl it ρ h = .ok (l, xs.map g) h') (hc : chk l h') (hl : xs.length ≤ sizeLine) (hb : ∀ x ∈ xs, turnC P cl elt gt ifs own ρ (g x) h' = .ok (if p x = true then some (f x) else none) h') (r : Bool) :
    ev P cl (.comp r elt gt it ifs own) ρ h = mkLst r ((xs.filter p).map f) h' := by
  rw [comp_fm hi hc hl (f := fun x => if p x = true then some (f x) else none) hb r]
  congr 1
  clear hi hl hb
  induction xs with
  | nil => rfl
  | cons x xs ih =>
    rw [List.filterMap_cons, List.filter_cons]
    cases p x with
    | true => simp [ih]
    | false => simp [ih]
theorem compL_rel {body : PV → MH → Res (Option PV)} (I : List α → List PV → MH → Prop) (hc : ∀ xs acc h, I xs acc h → chk l h) (hs : ∀ x xs acc h, I (x :: xs) acc h → ∃ o h', body (g x) h = .ok o h' ∧ I xs (addO acc o) h') :
    ∀ (xs : List α) (acc : List PV) (h : MH), I xs acc h → ∃ ys h', compL body l (xs.map g) acc h = .ok ys h' ∧ I [] ys h'
  | [], acc, h, i => ⟨acc, h, by rw [List.map_nil, compL_nil (hc _ _ _ i)], i⟩
  | x :: xs, acc, h, i => by
    obtain ⟨o, h1, e, i1⟩ := hs x xs acc h i
    obtain ⟨ys, h2, e2, i2⟩ := compL_rel I hc hs xs _ h1 i1
    exact ⟨ys, h2, by rw [List.map_cons, compL_cons (hc _ _ _ i) e, e2], i2⟩
/-- a comprehension by what holds of what is left and what was made -/
theorem comp_rel {xs : List α} (I : List α → List PV → MH → Prop) (hi : evi P cl it ρ h = .ok (l, xs.map g) h') (h0 : I xs [] h') (hc : ∀ xs acc h, I xs acc h → chk l h) (hz : ∀ ys h, I [] ys h → ys.length ≤ sizeLine)
    (hs : ∀ x xs acc h, I (x :: xs) acc h → ∃ o h1, turnC P cl elt gt ifs own ρ (g x) h = .ok o h1 ∧ I xs (addO acc o) h1) (r : Bool) : ∃ ys h2, ev P cl (.comp r elt gt it ifs own) ρ h = mkLst r ys h2 ∧ I [] ys h2 := by
  obtain ⟨ys, h2, e, i⟩ := compL_rel (body := fun x h => (turnC P cl elt gt ifs own ρ x h).nox) (g := g) I hc (fun x xs acc h i => by
    obtain ⟨o, h1, e, i1⟩ := hs x xs acc h i
    exact ⟨o, h1, by rw [e]; rfl, i1⟩) xs [] h' h0
  refine ⟨ys, h2, ?_, i⟩
  rw [comp_run (xs := []), hi, Res.bind_ok, e, Res.bind_ok, if_pos (hz _ _ i)]
end
/-! ### tables by texts -/
section
variable {α : Type}
def sget (t : List (Str × α)) (k : Str) : Option α := (t.find? fun p => decide (p.1 = k)).map (·.2)
def sput (t : List (Str × α)) (k : Str) (v : α) : List (Str × α) := if (t.any fun p => decide (p.1 = k)) = true then t.map (fun p => if p.1 = k then (p.1, v) else p) else t ++ [(k, v)]
/-- a table as it stands in the heap -/
def tb (g : α → PV) (t : List (Str × α)) : List (Key × PV) := t.map fun p => (.inr p.1, g p.2)
theorem inr_inj {a b : Str} : ((Sum.inr a : Key) = Sum.inr b) ↔ a = b := ⟨fun h => Sum.inr.inj h, fun h => by rw [h]⟩
variable {g : α → PV} {t : List (Str × α)} {k : Str}
theorem kget_tb : kget (tb g t) (.inr k) = (sget t k).map g := by
  unfold kget sget tb
  induction t with
  | nil => rfl
  | cons p t ih =>
    rw [List.map_cons, List.find?_cons, List.find?_cons]
    by_cases h : p.1 = k
    · simp [h]
    · have h' : decide ((Sum.inr p.1 : Key) = Sum.inr k) = false := decide_eq_false fun q => h (Sum.inr.inj q)
      rw [h', decide_eq_false h]
      exact ih
theorem kput_tb {v : α} : kput (tb g t) (.inr k) (g v) = tb g (sput t k v) := by
  unfold kput sput tb
  have e : (List.map (fun p => ((Sum.inr p.1 : Key), g p.2)) t).any (fun p => decide (p.1 = Sum.inr k)) = t.any fun p => decide (p.1 = k) := by
    rw [List.any_map]
    congr 1
    funext p
    simp [inr_inj]
  rw [e]
  split
  · rw [List.map_map, List.map_map]
    congr 1
    funext p
    by_cases h : p.1 = k
    · simp [h, inr_inj]
    · simp [h, inr_inj]
  · simp
theorem kdrop_tb : kdrop (tb g t) (.inr k) = tb g (t.filter fun p => decide (p.1 ≠ k)) := by
  unfold kdrop tb
  rw [List.filter_map]
  congr 1
  congr 1
  funext p
  simp [inr_inj]
theorem tb_len : (tb g t).length = t.length := by unfold tb; simp
theorem tb_fst : (tb g t).map (·.1) = t.map fun p => (.inr p.1 : Key) := by unfold tb; simp
theorem tb_snd : (tb g t).map (·.2) = t.map fun p => g p.2 := by unfold tb; simp
instance [∀ a, Dt (g a)] : Dts ((tb g t).map (·.2)) := by rw [tb_snd]; infer_instance
theorem tb_zip : ((tb g t).map (·.1)).zip ((tb g t).map (·.2)) = tb g t := by
  unfold tb
  induction t with
  | nil => rfl
  | cons p t ih => simp at ih ⊢; exact ih
theorem strs_map : ∀ {l : List Str}, strsOf (l.map PV.str) = some l
  | [] => rfl
  | x :: l => by rw [List.map_cons, strsOf, strs_map]; rfl
theorem tb_strs : strsOf ((tb g t).map fun p => kP p.1) = some (t.map (·.1)) := by
  have : (tb g t).map (fun p => kP p.1) = (t.map (·.1)).map PV.str := by unfold tb; simp [kP]
  rw [this, strs_map]
theorem sput_len_le {v : α} : (sput t k v).length ≤ t.length + 1 := by
  unfold sput; split <;> simp
theorem sput_keys {v : α} : (sput t k v).map (·.1) = if k ∈ t.map (·.1) then t.map (·.1) else t.map (·.1) ++ [k] := by
  unfold sput
  by_cases h : (t.any fun p => decide (p.1 = k)) = true
  · rw [if_pos h]
    have : k ∈ t.map (·.1) := by
      rw [List.any_eq_true] at h
      obtain ⟨p, hp, e⟩ := h
      exact List.mem_map.mpr ⟨p, hp, by simpa using e⟩
    rw [if_pos this, List.map_map]
    congr 1
    funext p
    by_cases e : p.1 = k <;> simp [e]
  · rw [if_neg h]
    have : k ∉ t.map (·.1) := fun q => by
      obtain ⟨p, hp, e⟩ := List.mem_map.mp q
      exact h (List.any_eq_true.mpr ⟨p, hp, by simpa using e⟩)
    rw [if_neg this]
    simp
theorem sput_nodup {v : α} (h : (t.map (·.1)).Nodup) : ((sput t k v).map (·.1)).Nodup := by
  rw [sput_keys]
  split
  · exact h
  · rename_i hk
    rw [List.nodup_append]
    exact ⟨h, by simp, fun a ha b hb e => hk (by rw [List.mem_singleton] at hb; rw [← hb, ← e]; exact ha)⟩
theorem sget_put {v : α} {k' : Str} : sget (sput t k v) k' = if k' = k then some v else sget t k' := by
  unfold sget sput
  by_cases h : (t.any fun p => decide (p.1 = k)) = true
  · rw [if_pos h]
    induction t with
    | nil => cases h
    | cons p t ih =>
      rw [List.map_cons, List.find?_cons, List.find?_cons]
      by_cases hp : p.1 = k
      · rw [if_pos hp]
        by_cases hk : k' = k
        · simp [hp, hk]
        · have : ¬ p.1 = k' := fun e => hk (e.symm.trans hp)
          rw [decide_eq_false this, if_neg hk]
          dsimp only
          clear ih h
          induction t with
          | nil => rfl
          | cons q t ih =>
            rw [List.map_cons, List.find?_cons, List.find?_cons]
            by_cases hq : q.1 = k
            · rw [if_pos hq]
              have : ¬ q.1 = k' := fun e => hk (e.symm.trans hq)
              rw [decide_eq_false this]
              exact ih
            · rw [if_neg hq]
              by_cases hq2 : q.1 = k'
              · simp [hq2]
              · rw [decide_eq_false hq2]; exact ih
      · rw [if_neg hp]
        have h2 : (t.any fun p => decide (p.1 = k)) = true := by
          rw [List.any_cons, decide_eq_false hp] at h; exact h
        by_cases hp2 : p.1 = k'
        · have hk : ¬ k' = k := fun e => hp (hp2.trans e)
          simp [hp2, hk]
        · rw [decide_eq_false hp2]
          exact ih h2
  · rw [if_neg h]
    rw [List.find?_append]
    have hn : ∀ p ∈ t, ¬ p.1 = k := fun p hp e => h (List.any_eq_true.mpr ⟨p, hp, by simpa using e⟩)
    by_cases hk : k' = k
    · subst hk
      have : t.find? (fun p => decide (p.1 = k')) = none := List.find?_eq_none.mpr fun p hp => by simpa using hn p hp
      rw [this]
      simp
    · rw [if_neg hk]
      have hkk : ¬ k = k' := fun e => hk e.symm
      cases t.find? (fun p => decide (p.1 = k')) with
      | none => simp [hkk]
      | some _ => rfl
end
/-! ### statements with loops -/
section
variable {P : Pg} {cl : Calls} {s : As} {gt : Ag} {it : Ai} {b : Ass} {c : Ae} {ρ ρ2 : Env'} {h h1 h2 : MH} {l : List (Nat × List PV)} {ys : List PV}
noncomputable abbrev turnF (P : Pg) (cl : Calls) (gt : Ag) (b : Ass) (x : PV) (ρ : Env') (h : MH) : Out := match bindG gt x ρ h with
  | some ρ' => runs P cl b ρ' h
  | none => .stuck
theorem for_run (hs : s = .for gt it b) (hi : evi P cl it ρ h = .ok (l, ys) h1) : run1 P cl s ρ h = forL (turnF P cl gt b) l ys ρ h1 := by
  subst hs
  rw [q_run1_for, hi, Res.out_ok]
  all_goals rfl
theorem whl_run {n : Nat} {o : Out} (hs : s = .whl c b) (e : whlN (tst P cl c) (runs P cl b) n ρ h = o) (ho : o ≠ .stuck) : run1 P cl s ρ h = o := by
  subst hs
  rw [q_run1_whl]
  exact whl_eq e ho
end
end Mx

end

section
set_option linter.all false
set_option maxRecDepth 100000
namespace Mx.FA
open PySem PySem.Spec PyProof.Rows L2 Mx
def f_is_integer : Fn := ⟨1, ["value"], (.cons (.ret (.and (.cons (.isi (.v 0) ["int"]) (.cons (.not (.isi (.v 0) ["bool"])) .nil)))) .nil), false⟩
def f_is_pair : Fn := ⟨1, ["value"], (.cons (.ret (.and (.cons (.isi (.v 0) ["tuple"]) (.cons (.cmp .eq (.blt .len false (.cons (.v 0) .nil)) (.int 2)) .nil)))) .nil), false⟩
def c_is_ascending_1 : Ae := .comp false (.cmp .lt (.ix (.v 0) (.v 1)) (.ix (.v 0) (.bin .add false (.v 1) (.int 1)))) (.nm 1) (.range1 (.bin .sub false (.blt .len false (.cons (.v 0) .nil)) (.int 1))) .none [("k", 1)]
def f_is_ascending : Fn := ⟨2, ["row"], (.cons (.ret (.blt .all false (.cons c_is_ascending_1 .nil))) .nil), false⟩
def f_lowest : Fn := ⟨3, ["top", "bottom"], (.cons (.set (.nm 2) (.blt .gcd false (.cons (.v 0) (.cons (.v 1) .nil)))) (.cons (.ite (.cmp .lt (.v 1) (.int 0)) (.cons (.set (.nm 2) (.neg (.v 2))) .nil) .nil) (.cons (.ret (.tup (.cons (.bin .fdiv false (.v 0) (.v 2)) (.cons (.bin .fdiv false (.v 1) (.v 2)) .nil)))) .nil))), false⟩
def f_sum_of_two : Fn := ⟨2, ["a", "b"], (.cons (.ite (.and (.cons (.cmp .eq (.ix (.v 0) (.int 1)) (.int 1)) (.cons (.cmp .eq (.ix (.v 1) (.int 1)) (.int 1)) .nil))) (.cons (.ret (.tup (.cons (.bin .add false (.ix (.v 0) (.int 0)) (.ix (.v 1) (.int 0))) (.cons (.int 1) .nil)))) .nil) .nil) (.cons (.ret (.call "lowest" (.cons (.bin .add false (.bin .mul false (.ix (.v 0) (.int 0)) (.ix (.v 1) (.int 1))) (.bin .mul false (.ix (.v 1) (.int 0)) (.ix (.v 0) (.int 1)))) (.cons (.bin .mul false (.ix (.v 0) (.int 1)) (.ix (.v 1) (.int 1))) .nil)) [] .nil)) .nil)), false⟩
def f_product : Fn := ⟨2, ["a", "b"], (.cons (.ite (.and (.cons (.cmp .eq (.ix (.v 0) (.int 1)) (.int 1)) (.cons (.cmp .eq (.ix (.v 1) (.int 1)) (.int 1)) .nil))) (.cons (.ret (.tup (.cons (.bin .mul false (.ix (.v 0) (.int 0)) (.ix (.v 1) (.int 0))) (.cons (.int 1) .nil)))) .nil) .nil) (.cons (.ret (.call "lowest" (.cons (.bin .mul false (.ix (.v 0) (.int 0)) (.ix (.v 1) (.int 0))) (.cons (.bin .mul false (.ix (.v 0) (.int 1)) (.ix (.v 1) (.int 1))) .nil)) [] .nil)) .nil)), false⟩
def l_sum_of_all_1 : As := .for (.nm 2) (.ex (.v 0)) (.cons (.set (.nm 1) (.call "sum_of_two" (.cons (.v 1) (.cons (.v 2) .nil)) [] .nil)) .nil)
def f_sum_of_all : Fn := ⟨3, ["row"], (.cons (.set (.nm 1) (.tup (.cons (.int 0) (.cons (.int 1) .nil)))) (.cons l_sum_of_all_1 (.cons (.ret (.v 1)) .nil))), false⟩
def f_is_number : Fn := ⟨1, ["told"], (.cons (.ite (.or (.cons (.not (.call "is_pair" (.cons (.v 0) .nil) [] .nil)) (.cons (.not (.call "is_integer" (.cons (.ix (.v 0) (.int 0)) .nil) [] .nil)) (.cons (.not (.call "is_integer" (.cons (.ix (.v 0) (.int 1)) .nil) [] .nil)) (.cons (.cmp .lt (.ix (.v 0) (.int 1)) (.int 1)) .nil))))) (.cons (.ret (.bl false)) .nil) .nil) (.cons (.ret (.cmp .eq (.call "lowest" (.cons (.ix (.v 0) (.int 0)) (.cons (.ix (.v 0) (.int 1)) .nil)) [] .nil) (.v 0))) .nil)), false⟩
def l_check_numbers_1 : As := .for (.nm 1) (.ex (.v 0)) (.cons (.ite (.not (.call "is_number" (.cons (.v 1) .nil) [] .nil)) (.cons (.rais "InvalidNumber" (.v 1) false) .nil) .nil) .nil)
def f_check_numbers : Fn := ⟨2, ["row"], (.cons l_check_numbers_1 .nil), false⟩
def c_is_name_1 : Ae := .comp false (.cmp .inn (.v 1) (.con "LETTERS")) (.nm 1) (.ex (.v 0)) .none [("sign", 1)]
def f_is_name : Fn := ⟨2, ["told"], (.cons (.ret (.and (.cons (.isi (.v 0) ["str"]) (.cons (.chain .le .le (.int 1) (.blt .len false (.cons (.v 0) .nil)) (.con "MOST_NAME")) (.cons (.blt .all false (.cons c_is_name_1 .nil)) .nil))))) .nil), false⟩
def f_is_term : Fn := ⟨1, ["told"], (.cons (.ret (.and (.cons (.call "is_pair" (.cons (.v 0) .nil) [] .nil) (.cons (.call "is_name" (.cons (.ix (.v 0) (.int 0)) .nil) [] .nil) (.cons (.call "is_number" (.cons (.ix (.v 0) (.int 1)) .nil) [] .nil) (.cons (.cmp .ne (.ix (.v 0) (.int 1)) (.con "ZERO")) .nil)))))) .nil), false⟩
def c_is_form_1 : Ae := .comp false (.call "is_term" (.cons (.v 1) .nil) [] .nil) (.nm 1) (.ex (.ix (.v 0) (.int 1))) .none [("term", 1)]
def c_is_form_2 : Ae := .comp false (.v 2) (.tp (.cons (.nm 2) (.cons (.nm 3) .nil))) (.ex (.ix (.v 0) (.int 1))) .none [("name", 2), ("number", 3)]
def f_is_form : Fn := ⟨4, ["told"], (.cons (.ite (.or (.cons (.not (.call "is_pair" (.cons (.v 0) .nil) [] .nil)) (.cons (.not (.call "is_number" (.cons (.ix (.v 0) (.int 0)) .nil) [] .nil)) (.cons (.not (.isi (.ix (.v 0) (.int 1)) ["tuple"])) .nil)))) (.cons (.ret (.bl false)) .nil) .nil) (.cons (.ret (.and (.cons (.blt .all false (.cons c_is_form_1 .nil)) (.cons (.call "is_ascending" (.cons c_is_form_2 .nil) [] .nil) .nil)))) .nil)), false⟩
def f_check_name : Fn := ⟨1, ["name"], (.cons (.ite (.not (.call "is_name" (.cons (.v 0) .nil) [] .nil)) (.cons (.rais "InvalidName" (.v 0) false) .nil) .nil) .nil), false⟩
def f_check_form : Fn := ⟨1, ["form"], (.cons (.ite (.not (.call "is_form" (.cons (.v 0) .nil) [] .nil)) (.cons (.rais "InvalidForm" (.v 0) false) .nil) .nil) .nil), false⟩
def l_form_of_1 : As := .for (.tp (.cons (.nm 3) (.cons (.nm 4) .nil))) (.ex (.v 1)) (.cons (.put (.v 2) (.v 3) (.call "sum_of_two" (.cons (.met .get false (.v 2) (.cons (.v 3) (.cons (.con "ZERO") .nil))) (.cons (.v 4) .nil)) [] .nil)) .nil)
def c_form_of_2 : Ae := .comp false (.tup (.cons (.v 3) (.cons (.ix (.v 2) (.v 3)) .nil))) (.nm 3) (.ex (.blt .sorted false (.cons (.v 2) .nil))) (.some (.cmp .ne (.ix (.v 2) (.v 3)) (.con "ZERO"))) [("name", 3)]
def f_form_of : Fn := ⟨5, ["constant", "terms"], (.cons (.set (.nm 2) (.dnew .nil)) (.cons l_form_of_1 (.cons (.ret (.tup (.cons (.v 0) (.cons (.blt .tuple false (.cons c_form_of_2 .nil)) .nil)))) .nil))), false⟩
def f_sum_form : Fn := ⟨2, ["one", "other"], (.cons (.ret (.call "form_of" (.cons (.call "sum_of_two" (.cons (.ix (.v 0) (.int 0)) (.cons (.ix (.v 1) (.int 0)) .nil)) [] .nil) (.cons (.bin .add false (.ix (.v 0) (.int 1)) (.ix (.v 1) (.int 1))) .nil)) [] .nil)) .nil), false⟩
def c_scaled_form_1 : Ae := .comp false (.tup (.cons (.v 2) (.cons (.call "product" (.cons (.v 3) (.cons (.v 1) .nil)) [] .nil) .nil))) (.tp (.cons (.nm 2) (.cons (.nm 3) .nil))) (.ex (.ix (.v 0) (.int 1))) .none [("name", 2), ("own", 3)]
def f_scaled_form : Fn := ⟨4, ["form", "number"], (.cons (.ret (.call "form_of" (.cons (.call "product" (.cons (.ix (.v 0) (.int 0)) (.cons (.v 1) .nil)) [] .nil) (.cons c_scaled_form_1 .nil)) [] .nil)) .nil), false⟩
def c_worth_at_1 : Ae := .comp false (.call "product" (.cons (.v 3) (.cons (.ix (.v 1) (.v 2)) .nil)) [] .nil) (.tp (.cons (.nm 2) (.cons (.nm 3) .nil))) (.ex (.ix (.v 0) (.int 1))) .none [("name", 2), ("number", 3)]
def f_worth_at : Fn := ⟨4, ["form", "table"], (.cons (.ret (.call "sum_of_all" (.cons (.bin .add false (.lst false (.cons (.ix (.v 0) (.int 0)) .nil)) c_worth_at_1) .nil) [] .nil)) .nil), false⟩
def l_form_1 : As := .for (.tp (.cons (.nm 2) (.cons (.nm 3) .nil))) (.ex (.v 1)) (.cons (.ex (.call "check_name" (.cons (.v 2) .nil) [] .nil)) .nil)
def c_form_2 : Ae := .comp false (.v 3) (.tp (.cons (.nm 2) (.cons (.nm 3) .nil))) (.ex (.v 1)) .none [("name", 2), ("number", 3)]
def f_form : Fn := ⟨4, ["constant", "terms"], (.cons l_form_1 (.cons (.ex (.call "check_numbers" (.cons (.bin .add false (.lst false (.cons (.v 0) .nil)) c_form_2) .nil) [] .nil)) (.cons (.ret (.call "form_of" (.cons (.v 0) (.cons (.v 1) .nil)) [] .nil)) .nil))), false⟩
def f_added : Fn := ⟨2, ["one", "other"], (.cons (.ex (.call "check_form" (.cons (.v 0) .nil) [] .nil)) (.cons (.ex (.call "check_form" (.cons (.v 1) .nil) [] .nil)) (.cons (.ret (.call "sum_form" (.cons (.v 0) (.cons (.v 1) .nil)) [] .nil)) .nil))), false⟩
def f_scaled : Fn := ⟨2, ["form", "number"], (.cons (.ite (.not (.call "is_number" (.cons (.v 1) .nil) [] .nil)) (.cons (.rais "InvalidNumber" (.v 1) false) .nil) .nil) (.cons (.ex (.call "check_form" (.cons (.v 0) .nil) [] .nil)) (.cons (.ret (.call "scaled_form" (.cons (.v 0) (.cons (.v 1) .nil)) [] .nil)) .nil))), false⟩
def c_worth_1 : Ae := .comp false (.call "is_number" (.cons (.v 3) .nil) [] .nil) (.nm 3) (.ex (.v 2)) .none [("a", 3)]
def l_worth_2 : As := .for (.tp (.cons (.nm 4) (.cons (.nm 5) .nil))) (.ex (.ix (.v 0) (.int 1))) (.cons (.ite (.cmp .nin (.v 4) (.v 1)) (.cons (.rais "InvalidName" (.v 4) false) .nil) .nil) .nil)
def f_worth : Fn := ⟨6, ["form", "names", "point"], (.cons (.ex (.call "check_form" (.cons (.v 0) .nil) [] .nil)) (.cons (.ite (.or (.cons (.cmp .ne (.blt .len false (.cons (.v 2) .nil)) (.blt .len false (.cons (.v 1) .nil))) (.cons (.not (.blt .all false (.cons c_worth_1 .nil))) .nil))) (.cons (.rais "InvalidPoint" (.v 2) false) .nil) .nil) (.cons l_worth_2 (.cons (.ret (.call "worth_at" (.cons (.v 0) (.cons (.dzip (.v 1) (.v 2)) .nil)) [] .nil)) .nil)))), false⟩
def c_names_of_1 : Ae := .comp false (.v 1) (.tp (.cons (.nm 1) (.cons (.nm 2) .nil))) (.ex (.ix (.v 0) (.int 1))) .none [("name", 1), ("number", 2)]
def f_names_of : Fn := ⟨3, ["form"], (.cons (.ex (.call "check_form" (.cons (.v 0) .nil) [] .nil)) (.cons (.ret (.blt .tuple false (.cons c_names_of_1 .nil))) .nil)), false⟩
def f_law_deck : Fn := ⟨4, ["script", "k"], (.cons (.set (.nm 2) (.int 0)) (.cons (.ite (.cmp .lt (.v 1) (.blt .len false (.cons (.v 0) .nil))) (.cons (.set (.nm 2) (.ix (.v 0) (.v 1))) .nil) .nil) (.cons (.set (.nm 3) (.bin .mod false (.blt .int false (.cons (.bin .add false (.bin .add false (.v 2) (.bin .mul false (.int 7919) (.v 1))) (.int 104729)) .nil)) (.int 2305843009213693951))) (.cons (.set (.nm 3) (.bin .mod false (.blt .int false (.cons (.bin .add false (.bin .add false (.bin .mul false (.bin .mul false (.v 3) (.v 3)) (.v 3)) (.bin .mul false (.int 31) (.v 1))) (.int 7)) .nil)) (.int 2305843009213693951))) (.cons (.ite (.cmp .lt (.v 2) (.bin .pow false (.int 10) (.int 18))) (.cons (.ret (.lst true (.cons (.int 0) (.cons (.v 3) .nil)))) .nil) .nil) (.cons (.ret (.lst true (.cons (.bin .sub false (.v 2) (.bin .pow false (.int 10) (.int 18))) (.cons (.v 3) .nil)))) .nil)))))), true⟩
def f_law_take : Fn := ⟨3, ["deck", "many"], (.cons (.ite (.cmp .gt (.ix (.v 0) (.int 0)) (.int 0)) (.cons (.set (.nm 2) (.bin .mod false (.blt .int false (.cons (.ix (.v 0) (.int 0)) .nil)) (.v 1))) (.cons (.put (.v 0) (.int 0) (.bin .fdiv false (.ix (.v 0) (.int 0)) (.v 1))) (.cons (.ret (.v 2)) .nil))) .nil) (.cons (.put (.v 0) (.int 1) (.bin .mod false (.blt .int false (.cons (.bin .add false (.bin .mul false (.ix (.v 0) (.int 1)) (.int 6364136223846793005)) (.int 1442695040888963407)) .nil)) (.bin .pow false (.int 2) (.int 64)))) (.cons (.ret (.bin .mod false (.bin .fdiv false (.ix (.v 0) (.int 1)) (.bin .pow false (.int 2) (.int 33))) (.v 1))) .nil))), false⟩
def w_law_gcd_1 : As := .whl (.cmp .ne (.v 1) (.int 0)) (.cons (.set (.tp (.cons (.nm 0) (.cons (.nm 1) .nil))) (.tup (.cons (.v 1) (.cons (.bin .mod false (.blt .int false (.cons (.v 0) .nil)) (.v 1)) .nil)))) .nil)
def f_law_gcd : Fn := ⟨2, ["m", "n"], (.cons w_law_gcd_1 (.cons (.ret (.v 0)) .nil)), false⟩
def f_law_pair : Fn := ⟨3, ["upper", "lower"], (.cons (.set (.nm 2) (.call "_law_gcd" (.cons (.blt .abs false (.cons (.v 0) .nil)) (.cons (.blt .abs false (.cons (.v 1) .nil)) .nil)) [] .nil)) (.cons (.ite (.cmp .lt (.v 1) (.int 0)) (.cons (.set (.nm 2) (.neg (.v 2))) .nil) .nil) (.cons (.ret (.tup (.cons (.bin .fdiv false (.v 0) (.v 2)) (.cons (.bin .fdiv false (.v 1) (.v 2)) .nil)))) .nil))), false⟩
def f_law_plus : Fn := ⟨2, ["m", "n"], (.cons (.ret (.call "_law_pair" (.cons (.bin .add false (.bin .mul false (.ix (.v 0) (.int 0)) (.ix (.v 1) (.int 1))) (.bin .mul false (.ix (.v 1) (.int 0)) (.ix (.v 0) (.int 1)))) (.cons (.bin .mul false (.ix (.v 0) (.int 1)) (.ix (.v 1) (.int 1))) .nil)) [] .nil)) .nil), false⟩
def f_law_times : Fn := ⟨2, ["m", "n"], (.cons (.ret (.call "_law_pair" (.cons (.bin .mul false (.ix (.v 0) (.int 0)) (.ix (.v 1) (.int 0))) (.cons (.bin .mul false (.ix (.v 0) (.int 1)) (.ix (.v 1) (.int 1))) .nil)) [] .nil)) .nil), false⟩
def c_law_same_1 : Ae := .comp false (.v 2) (.nm 2) (.range1 (.blt .len false (.cons (.v 1) .nil))) (.some (.not (.call "_law_same" (.cons (.ix (.v 0) (.v 2)) (.cons (.ix (.v 1) (.v 2)) .nil)) [] .nil))) [("k", 2)]
def f_law_same : Fn := ⟨3, ["found", "due"], (.cons (.ite (.isi (.v 1) ["tuple", "list"]) (.cons (.ite (.or (.cons (.cmp .ne (.isi (.v 0) ["tuple"]) (.isi (.v 1) ["tuple"])) (.cons (.cmp .ne (.isi (.v 0) ["list"]) (.isi (.v 1) ["list"])) .nil))) (.cons (.ret (.bl false)) .nil) .nil) (.cons (.ite (.cmp .ne (.blt .len false (.cons (.v 0) .nil)) (.blt .len false (.cons (.v 1) .nil))) (.cons (.ret (.bl false)) .nil) .nil) (.cons (.ret (.cmp .eq c_law_same_1 (.lst false .nil))) .nil))) .nil) (.cons (.ite (.cmp .isN (.v 1) .non) (.cons (.ret (.cmp .isN (.v 0) .non)) .nil) .nil) (.cons (.ite (.isi (.v 1) ["str"]) (.cons (.ret (.and (.cons (.isi (.v 0) ["str"]) (.cons (.cmp .eq (.v 0) (.v 1)) .nil)))) .nil) .nil) (.cons (.ite (.or (.cons (.isi (.v 1) ["bool"]) (.cons (.isi (.v 0) ["bool"]) .nil))) (.cons (.ret (.and (.cons (.isi (.v 1) ["bool"]) (.cons (.isi (.v 0) ["bool"]) (.cons (.cmp .eq (.v 0) (.v 1)) .nil))))) .nil) .nil) (.cons (.ret (.and (.cons (.isi (.v 0) ["int"]) (.cons (.cmp .eq (.v 0) (.v 1)) .nil)))) .nil))))), false⟩
def f_law_number : Fn := ⟨2, ["deck"], (.cons (.set (.nm 1) (.call "_law_take" (.cons (.v 0) (.cons (.int 6) .nil)) [] .nil)) (.cons (.ite (.cmp .eq (.v 1) (.int 0)) (.cons (.ret (.tup (.cons (.bin .sub false (.call "_law_take" (.cons (.v 0) (.cons (.int 3) .nil)) [] .nil) (.int 1)) (.cons (.int 1) .nil)))) .nil) .nil) (.cons (.ite (.cmp .eq (.v 1) (.int 1)) (.cons (.ret (.tup (.cons (.bin .sub false (.call "_law_take" (.cons (.v 0) (.cons (.int 41) .nil)) [] .nil) (.int 20)) (.cons (.int 1) .nil)))) .nil) .nil) (.cons (.ite (.cmp .lt (.v 1) (.int 4)) (.cons (.ret (.call "_law_pair" (.cons (.bin .sub false (.call "_law_take" (.cons (.v 0) (.cons (.int 41) .nil)) [] .nil) (.int 20)) (.cons (.bin .add false (.int 1) (.call "_law_take" (.cons (.v 0) (.cons (.int 12) .nil)) [] .nil)) .nil)) [] .nil)) .nil) .nil) (.cons (.ite (.cmp .eq (.v 1) (.int 4)) (.cons (.ret (.call "_law_pair" (.cons (.bin .sub false (.call "_law_take" (.cons (.v 0) (.cons (.int 1999999) .nil)) [] .nil) (.int 999999)) (.cons (.int 1) .nil)) [] .nil)) .nil) .nil) (.cons (.ret (.call "_law_pair" (.cons (.bin .sub false (.call "_law_take" (.cons (.v 0) (.cons (.int 1999999) .nil)) [] .nil) (.int 999999)) (.cons (.bin .add false (.int 1) (.call "_law_take" (.cons (.v 0) (.cons (.int 999999) .nil)) [] .nil)) .nil)) [] .nil)) .nil)))))), false⟩
def c_law_label_1 : Ae := .comp false (.ix (.v 1) (.call "_law_take" (.cons (.v 0) (.cons (.int 26) .nil)) [] .nil)) (.nm 3) (.range1 (.v 2)) .none [("k", 3)]
def f_law_label : Fn := ⟨4, ["deck"], (.cons (.set (.nm 1) (.str "abcdefghijklmnopqrstuvwxyz")) (.cons (.set (.nm 2) (.ix (.lst false (.cons (.int 1) (.cons (.int 1) (.cons (.int 2) (.cons (.int 3) (.cons (.int 8) (.cons (.bin .add false (.int 1) (.call "_law_take" (.cons (.v 0) (.cons (.int 8) .nil)) [] .nil)) .nil))))))) (.call "_law_take" (.cons (.v 0) (.cons (.int 6) .nil)) [] .nil))) (.cons (.ret (.met .join false (.str "") (.cons c_law_label_1 .nil))) .nil))), false⟩
def l_law_labels_1 : As := .for (.nm 3) (.range1 (.bin .add false (.int 1) (.call "_law_take" (.cons (.v 0) (.cons (.v 1) .nil)) [] .nil))) (.cons (.put (.v 2) (.call "_law_label" (.cons (.v 0) .nil) [] .nil) (.bl true)) .nil)
def f_law_labels : Fn := ⟨4, ["deck", "most"], (.cons (.set (.nm 2) (.dnew .nil)) (.cons l_law_labels_1 (.cons (.ret (.blt .tuple false (.cons (.blt .sorted false (.cons (.v 2) .nil)) .nil))) .nil))), false⟩
def c_law_lain_1 : Ae := .comp false (.tup (.cons (.v 2) (.cons (.ix (.v 1) (.v 2)) .nil))) (.nm 2) (.ex (.blt .sorted false (.cons (.v 1) .nil))) (.some (.cmp .ne (.ix (.v 1) (.v 2)) (.tup (.cons (.int 0) (.cons (.int 1) .nil))))) [("label", 2)]
def f_law_lain : Fn := ⟨3, ["base", "table"], (.cons (.ret (.tup (.cons (.v 0) (.cons (.blt .tuple false (.cons c_law_lain_1 .nil)) .nil)))) .nil), false⟩
def l_law_shape_1 : As := .for (.nm 4) (.ex (.v 1)) (.cons (.ite (.or (.cons (.cmp .eq (.v 3) (.int 3)) (.cons (.cmp .lt (.call "_law_take" (.cons (.v 0) (.cons (.int 4) .nil)) [] .nil) (.v 3)) .nil))) (.cons (.put (.v 2) (.v 4) (.call "_law_number" (.cons (.v 0) .nil) [] .nil)) .nil) .nil) .nil)
def f_law_shape : Fn := ⟨5, ["deck", "labels"], (.cons (.set (.nm 2) (.dnew .nil)) (.cons (.set (.nm 3) (.call "_law_take" (.cons (.v 0) (.cons (.int 4) .nil)) [] .nil)) (.cons l_law_shape_1 (.cons (.ret (.call "_law_lain" (.cons (.call "_law_number" (.cons (.v 0) .nil) [] .nil) (.cons (.v 2) .nil)) [] .nil)) .nil)))), false⟩
def l_law_worth_1 : As := .for (.tp (.cons (.nm 3) (.cons (.nm 4) .nil))) (.ex (.ix (.v 0) (.int 1))) (.cons (.set (.nm 2) (.call "_law_plus" (.cons (.v 2) (.cons (.call "_law_times" (.cons (.v 4) (.cons (.ix (.v 1) (.v 3)) .nil)) [] .nil) .nil)) [] .nil)) .nil)
def f_law_worth : Fn := ⟨5, ["shape", "table"], (.cons (.set (.nm 2) (.ix (.v 0) (.int 0))) (.cons l_law_worth_1 (.cons (.ret (.v 2)) .nil))), false⟩
def l_law_rows_1 : As := .for (.nm 3) (.range1 (.ix (.lst false (.cons (.int 0) (.cons (.int 2) (.cons (.int 6) (.cons (.int 30) .nil))))) (.call "_law_take" (.cons (.v 0) (.cons (.int 4) .nil)) [] .nil))) (.cons (.set (.tp (.cons (.nm 5) (.cons (.nm 6) .nil))) (.tup (.cons (.ix (.v 1) (.call "_law_take" (.cons (.v 0) (.cons (.blt .len false (.cons (.v 1) .nil)) .nil)) [] .nil)) (.cons (.call "_law_number" (.cons (.v 0) .nil) [] .nil) .nil)))) (.cons (.set (.nm 4) (.call "_law_take" (.cons (.v 0) (.cons (.int 4) .nil)) [] .nil)) (.cons (.ite (.and (.cons (.cmp .eq (.v 4) (.int 0)) (.cons (.cmp .ne (.v 2) (.lst false .nil)) .nil))) (.cons (.set (.nm 7) (.ix (.v 2) (.call "_law_take" (.cons (.v 0) (.cons (.blt .len false (.cons (.v 2) .nil)) .nil)) [] .nil))) (.cons (.set (.tp (.cons (.nm 5) (.cons (.nm 6) .nil))) (.tup (.cons (.ix (.v 7) (.int 0)) (.cons (.tup (.cons (.neg (.ix (.ix (.v 7) (.int 1)) (.int 0))) (.cons (.ix (.ix (.v 7) (.int 1)) (.int 1)) .nil))) .nil)))) .nil)) .nil) (.cons (.ite (.and (.cons (.cmp .eq (.v 4) (.int 1)) (.cons (.cmp .eq (.call "_law_take" (.cons (.v 0) (.cons (.int 3) .nil)) [] .nil) (.int 0)) .nil))) (.cons (.set (.nm 6) (.tup (.cons (.int 0) (.cons (.int 1) .nil)))) .nil) .nil) (.cons (.ex (.met .append false (.v 2) (.cons (.tup (.cons (.v 5) (.cons (.v 6) .nil))) .nil))) .nil)))))
def f_law_rows : Fn := ⟨8, ["deck", "labels"], (.cons (.set (.nm 2) (.lst true .nil)) (.cons l_law_rows_1 (.cons (.ret (.v 2)) .nil))), false⟩
def l_law_summed_1 : As := .for (.tp (.cons (.nm 2) (.cons (.nm 3) .nil))) (.ex (.v 0)) (.cons (.put (.v 1) (.v 2) (.call "_law_plus" (.cons (.met .get false (.v 1) (.cons (.v 2) (.cons (.tup (.cons (.int 0) (.cons (.int 1) .nil))) .nil))) (.cons (.v 3) .nil)) [] .nil)) .nil)
def f_law_summed : Fn := ⟨4, ["rows"], (.cons (.set (.nm 1) (.dnew .nil)) (.cons l_law_summed_1 (.cons (.ret (.v 1)) .nil))), false⟩
def c_law_two_right_1 : Ae := .comp false (.tup (.cons (.v 7) (.cons (.call "_law_times" (.cons (.v 8) (.cons (.v 4) .nil)) [] .nil) .nil))) (.tp (.cons (.nm 7) (.cons (.nm 8) .nil))) (.ex (.ix (.v 2) (.int 1))) .none [("label", 7), ("own", 8)]
def c_law_two_right_2 : Ae := .comp false (.v 7) (.tp (.cons (.nm 7) (.cons (.nm 8) .nil))) (.ex (.ix (.v 3) (.int 1))) .none [("label", 7), ("own", 8)]
def c_law_two_right_3 : Ae := .comp false (.call "_law_number" (.cons (.v 0) .nil) [] .nil) (.nm 7) (.ex (.v 1)) .none [("label", 7)]
def f_law_two_right : Fn := ⟨10, ["deck", "labels"], (.cons (.set (.tp (.cons (.nm 2) (.cons (.nm 3) (.cons (.nm 4) .nil)))) (.tup (.cons (.call "_law_shape" (.cons (.v 0) (.cons (.v 1) .nil)) [] .nil) (.cons (.call "_law_shape" (.cons (.v 0) (.cons (.v 1) .nil)) [] .nil) (.cons (.call "_law_number" (.cons (.v 0) .nil) [] .nil) .nil))))) (.cons (.set (.nm 5) (.call "_law_lain" (.cons (.call "_law_plus" (.cons (.ix (.v 2) (.int 0)) (.cons (.ix (.v 3) (.int 0)) .nil)) [] .nil) (.cons (.call "_law_summed" (.cons (.bin .add false (.ix (.v 2) (.int 1)) (.ix (.v 3) (.int 1))) .nil) [] .nil) .nil)) [] .nil)) (.cons (.ite (.not (.call "_law_same" (.cons (.lst false (.cons (.call "added" (.cons (.v 2) (.cons (.v 3) .nil)) [] .nil) (.cons (.call "added" .nil ["other", "one"] (.cons (.v 3) (.cons (.v 2) .nil))) .nil))) (.cons (.lst false (.cons (.v 5) (.cons (.v 5) .nil))) .nil)) [] .nil)) (.cons (.ret (.bl false)) .nil) .nil) (.cons (.set (.nm 6) c_law_two_right_1) (.cons (.set (.nm 5) (.call "_law_lain" (.cons (.call "_law_times" (.cons (.ix (.v 2) (.int 0)) (.cons (.v 4) .nil)) [] .nil) (.cons (.call "_law_summed" (.cons (.v 6) .nil) [] .nil) .nil)) [] .nil)) (.cons (.ite (.not (.call "_law_same" (.cons (.lst false (.cons (.call "scaled" (.cons (.v 2) (.cons (.v 4) .nil)) [] .nil) (.cons (.call "scaled" .nil ["number", "form"] (.cons (.v 4) (.cons (.v 2) .nil))) .nil))) (.cons (.lst false (.cons (.v 5) (.cons (.v 5) .nil))) .nil)) [] .nil)) (.cons (.ret (.bl false)) .nil) .nil) (.cons (.set (.nm 5) (.blt .tuple false (.cons c_law_two_right_2 .nil))) (.cons (.ite (.not (.call "_law_same" (.cons (.lst false (.cons (.call "names_of" (.cons (.v 3) .nil) [] .nil) (.cons (.call "names_of" .nil ["form"] (.cons (.v 3) .nil)) .nil))) (.cons (.lst false (.cons (.v 5) (.cons (.v 5) .nil))) .nil)) [] .nil)) (.cons (.ret (.bl false)) .nil) .nil) (.cons (.set (.nm 9) (.blt .tuple false (.cons c_law_two_right_3 .nil))) (.cons (.set (.nm 5) (.call "_law_worth" (.cons (.v 2) (.cons (.dzip (.v 1) (.v 9)) .nil)) [] .nil)) (.cons (.ret (.call "_law_same" (.cons (.lst false (.cons (.call "worth" (.cons (.v 2) (.cons (.v 1) (.cons (.v 9) .nil))) [] .nil) (.cons (.call "worth" .nil ["point", "names", "form"] (.cons (.v 9) (.cons (.v 1) (.cons (.v 2) .nil)))) .nil))) (.cons (.lst false (.cons (.v 5) (.cons (.v 5) .nil))) .nil)) [] .nil)) .nil))))))))))), false⟩
def f_law_bent_label : Fn := ⟨5, ["deck", "label"], (.cons (.set (.nm 2) (.call "_law_take" (.cons (.v 0) (.cons (.blt .len false (.cons (.v 1) .nil)) .nil)) [] .nil)) (.cons (.set (.nm 3) (.ix (.str "AZ09_ .-|{") (.call "_law_take" (.cons (.v 0) (.cons (.int 10) .nil)) [] .nil))) (.cons (.set (.nm 4) (.lst false (.cons (.bin .add false (.bin .add false (.sl false (.v 1) .none (.some (.v 2))) (.v 3)) (.sl false (.v 1) (.some (.v 2)) .none)) (.cons (.bin .add false (.bin .add false (.sl false (.v 1) .none (.some (.v 2))) (.v 3)) (.sl false (.v 1) (.some (.bin .add false (.v 2) (.int 1))) .none)) (.cons (.str "") (.cons (.sl false (.bin .mul false (.v 1) (.int 9)) .none (.some (.int 9))) (.cons (.sl false (.bin .mul false (.v 1) (.int 8)) .none (.some (.int 8))) (.cons (.bin .add false (.v 1) (.str " ")) .nil)))))))) (.cons (.ret (.ix (.lst false (.cons (.v 1) (.cons (.met .upper false (.v 1) .nil) (.cons (.ix (.v 4) (.call "_law_take" (.cons (.v 0) (.cons (.int 6) .nil)) [] .nil)) (.cons (.ix (.v 4) (.call "_law_take" (.cons (.v 0) (.cons (.int 6) .nil)) [] .nil)) .nil))))) (.call "_law_take" (.cons (.v 0) (.cons (.int 4) .nil)) [] .nil))) .nil)))), false⟩
def c_law_is_label_1 : Ae := .comp false (.v 1) (.nm 1) (.ex (.v 0)) (.some (.cmp .nin (.v 1) (.str "abcdefghijklmnopqrstuvwxyz"))) [("sign", 1)]
def f_law_is_label : Fn := ⟨2, ["text"], (.cons (.ret (.and (.cons (.chain .le .le (.int 1) (.blt .len false (.cons (.v 0) .nil)) (.int 8)) (.cons (.cmp .eq c_law_is_label_1 (.lst false .nil)) .nil)))) .nil), false⟩
def f_law_bent_pair : Fn := ⟨5, ["deck", "pair"], (.cons (.set (.tp (.cons (.nm 2) (.cons (.nm 3) .nil))) (.v 1)) (.cons (.set (.nm 4) (.lst false (.cons (.tup (.cons (.bin .mul false (.v 2) (.int 3)) (.cons (.bin .mul false (.v 3) (.int 3)) .nil))) (.cons (.tup (.cons (.neg (.v 2)) (.cons (.neg (.v 3)) .nil))) (.cons (.tup (.cons (.v 2) (.cons (.int 0) .nil))) (.cons (.tup (.cons (.int 0) (.cons (.bin .add false (.v 3) (.int 1)) .nil))) (.cons (.tup (.cons (.int 0) (.cons (.int 1) .nil))) (.cons (.tup (.cons (.int 0) (.cons (.neg (.int 1)) .nil))) (.cons (.tup (.cons (.v 3) (.cons (.v 2) .nil))) (.cons (.v 1) .nil)))))))))) (.cons (.ret (.ix (.v 4) (.call "_law_take" (.cons (.v 0) (.cons (.int 8) .nil)) [] .nil))) .nil))), false⟩
def f_law_is_pair : Fn := ⟨1, ["pair"], (.cons (.ret (.and (.cons (.cmp .gt (.ix (.v 0) (.int 1)) (.int 0)) (.cons (.cmp .eq (.call "_law_gcd" (.cons (.blt .abs false (.cons (.ix (.v 0) (.int 0)) .nil)) (.cons (.ix (.v 0) (.int 1)) .nil)) [] .nil) (.int 1)) .nil)))) .nil), false⟩
def f_law_bent_shape : Fn := ⟨8, ["deck", "shape"], (.cons (.set (.tp (.cons (.nm 2) (.cons (.nm 3) .nil))) (.v 1)) (.cons (.set (.nm 4) (.call "_law_take" (.cons (.v 0) (.cons (.int 7) .nil)) [] .nil)) (.cons (.ite (.cmp .eq (.v 4) (.int 0)) (.cons (.ret (.tup (.cons (.call "_law_bent_pair" (.cons (.v 0) (.cons (.v 2) .nil)) [] .nil) (.cons (.v 3) .nil)))) .nil) .nil) (.cons (.ite (.or (.cons (.cmp .eq (.v 4) (.int 1)) (.cons (.cmp .eq (.v 3) (.tup .nil)) .nil))) (.cons (.ret (.tup (.cons (.v 2) (.cons (.bin .add false (.v 3) (.tup (.cons (.tup (.cons (.call "_law_bent_label" (.cons (.v 0) (.cons (.call "_law_label" (.cons (.v 0) .nil) [] .nil) .nil)) [] .nil) (.cons (.call "_law_number" (.cons (.v 0) .nil) [] .nil) .nil))) .nil))) .nil)))) .nil) .nil) (.cons (.set (.nm 5) (.call "_law_take" (.cons (.v 0) (.cons (.blt .len false (.cons (.v 3) .nil)) .nil)) [] .nil)) (.cons (.set (.tp (.cons (.nm 6) (.cons (.nm 7) .nil))) (.ix (.v 3) (.v 5))) (.cons (.ite (.cmp .eq (.v 4) (.int 2)) (.cons (.ret (.tup (.cons (.v 2) (.cons (.bin .add false (.bin .add false (.sl false (.v 3) .none (.some (.v 5))) (.tup (.cons (.tup (.cons (.v 6) (.cons (.call "_law_bent_pair" (.cons (.v 0) (.cons (.v 7) .nil)) [] .nil) .nil))) .nil))) (.sl false (.v 3) (.some (.bin .add false (.v 5) (.int 1))) .none)) .nil)))) .nil) .nil) (.cons (.ite (.cmp .eq (.v 4) (.int 3)) (.cons (.ret (.tup (.cons (.v 2) (.cons (.bin .add false (.bin .add false (.sl false (.v 3) .none (.some (.v 5))) (.tup (.cons (.tup (.cons (.call "_law_bent_label" (.cons (.v 0) (.cons (.v 6) .nil)) [] .nil) (.cons (.v 7) .nil))) .nil))) (.sl false (.v 3) (.some (.bin .add false (.v 5) (.int 1))) .none)) .nil)))) .nil) .nil) (.cons (.ite (.cmp .eq (.v 4) (.int 4)) (.cons (.ret (.tup (.cons (.v 2) (.cons (.rev false (.v 3)) .nil)))) .nil) .nil) (.cons (.ite (.cmp .eq (.v 4) (.int 5)) (.cons (.ret (.tup (.cons (.v 2) (.cons (.bin .add false (.v 3) (.tup (.cons (.ix (.v 3) (.v 5)) .nil))) .nil)))) .nil) .nil) (.cons (.ret (.tup (.cons (.v 2) (.cons (.bin .add false (.sl false (.v 3) (.some (.v 5)) .none) (.sl false (.v 3) .none (.some (.v 5)))) .nil)))) .nil))))))))))), false⟩
def l_law_is_shape_1 : As := .for (.nm 1) (.range1 (.blt .len false (.cons (.ix (.v 0) (.int 1)) .nil))) (.cons (.set (.tp (.cons (.nm 2) (.cons (.nm 3) .nil))) (.ix (.ix (.v 0) (.int 1)) (.v 1))) (.cons (.ite (.or (.cons (.not (.call "_law_is_label" (.cons (.v 2) .nil) [] .nil)) (.cons (.not (.call "_law_is_pair" (.cons (.v 3) .nil) [] .nil)) (.cons (.cmp .eq (.ix (.v 3) (.int 0)) (.int 0)) .nil)))) (.cons (.ret (.bl false)) .nil) .nil) (.cons (.ite (.and (.cons (.cmp .gt (.v 1) (.int 0)) (.cons (.not (.cmp .lt (.ix (.ix (.ix (.v 0) (.int 1)) (.bin .sub false (.v 1) (.int 1))) (.int 0)) (.v 2))) .nil))) (.cons (.ret (.bl false)) .nil) .nil) .nil)))
def f_law_is_shape : Fn := ⟨4, ["shape"], (.cons (.ite (.not (.call "_law_is_pair" (.cons (.ix (.v 0) (.int 0)) .nil) [] .nil)) (.cons (.ret (.bl false)) .nil) .nil) (.cons l_law_is_shape_1 (.cons (.ret (.bl true)) .nil))), false⟩
def f_law_wild_right : Fn := ⟨4, ["deck", "labels"], (.cons (.set (.nm 2) (.call "_law_bent_label" (.cons (.v 0) (.cons (.ix (.v 1) (.call "_law_take" (.cons (.v 0) (.cons (.blt .len false (.cons (.v 1) .nil)) .nil)) [] .nil)) .nil)) [] .nil)) (.cons (.ite (.not (.call "_law_same" (.cons (.lst false (.cons (.call "is_name" (.cons (.v 2) .nil) [] .nil) (.cons (.call "is_name" .nil ["told"] (.cons (.v 2) .nil)) .nil))) (.cons (.bin .mul false (.lst false (.cons (.call "_law_is_label" (.cons (.v 2) .nil) [] .nil) .nil)) (.int 2)) .nil)) [] .nil)) (.cons (.ret (.bl false)) .nil) .nil) (.cons (.set (.nm 3) (.call "_law_bent_shape" (.cons (.v 0) (.cons (.call "_law_shape" (.cons (.v 0) (.cons (.v 1) .nil)) [] .nil) .nil)) [] .nil)) (.cons (.ret (.call "_law_same" (.cons (.lst false (.cons (.call "is_form" (.cons (.v 3) .nil) [] .nil) (.cons (.call "is_form" .nil ["told"] (.cons (.v 3) .nil)) .nil))) (.cons (.bin .mul false (.lst false (.cons (.call "_law_is_shape" (.cons (.v 3) .nil) [] .nil) .nil)) (.int 2)) .nil)) [] .nil)) .nil)))), false⟩
def l_law_1 : As := .for (.nm 4) (.range1 (.int 6)) (.cons (.ite (.not (.call "_law_wild_right" (.cons (.v 2) (.cons (.v 3) .nil)) [] .nil)) (.cons (.ret (.bl false)) .nil) .nil) .nil)
def l_law_2 : As := .for (.nm 1) (.range1 (.blt .max false (.cons (.int 2) (.cons (.blt .min false (.cons (.blt .len false (.cons (.v 0) .nil)) (.cons (.int 16) .nil))) .nil)))) (.cons (.set (.nm 2) (.call "_law_deck" (.cons (.v 0) (.cons (.v 1) .nil)) [] .nil)) (.cons (.set (.nm 3) (.call "_law_labels" (.cons (.v 2) (.cons (.ix (.lst false (.cons (.int 3) (.cons (.int 12) .nil))) (.call "_law_take" (.cons (.v 2) (.cons (.int 2) .nil)) [] .nil)) .nil)) [] .nil)) (.cons (.ite (.or (.cons (.not (.call "_law_made_right" (.cons (.v 2) (.cons (.v 3) .nil)) [] .nil)) (.cons (.not (.call "_law_two_right" (.cons (.v 2) (.cons (.v 3) .nil)) [] .nil)) .nil))) (.cons (.ret (.bl false)) .nil) .nil) (.cons l_law_1 .nil))))
def f_law : Fn := ⟨5, ["script"], (.cons l_law_2 (.cons (.ret (.bl true)) .nil)), false⟩
def c_put_in_1 : Ae := .comp false (.v 5) (.nm 5) (.ex (.ix (.v 0) (.int 1))) (.some (.cmp .ne (.ix (.v 5) (.int 0)) (.v 1))) [("term", 5)]
def f_put_in : Fn := ⟨6, ["form", "name", "other"], (.cons (.ex (.call "check_name" (.cons (.v 1) .nil) [] .nil)) (.cons (.ex (.call "check_form" (.cons (.v 0) .nil) [] .nil)) (.cons (.ex (.call "check_form" (.cons (.v 2) .nil) [] .nil)) (.cons (.set (.nm 3) (.met .get false (.blt .dict false (.cons (.ix (.v 0) (.int 1)) .nil)) (.cons (.v 1) (.cons (.con "ZERO") .nil)))) (.cons (.set (.nm 4) (.tup (.cons (.ix (.v 0) (.int 0)) (.cons (.blt .tuple false (.cons c_put_in_1 .nil)) .nil)))) (.cons (.ret (.call "sum_form" (.cons (.v 4) (.cons (.call "scaled_form" (.cons (.v 2) (.cons (.v 3) .nil)) [] .nil) .nil)) [] .nil)) .nil)))))), false⟩
def l_law_due_1 : As := .for (.tp (.cons (.nm 5) (.cons (.nm 6) .nil))) (.ex (.ix (.v 2) (.int 1))) (.cons (.put (.v 3) (.v 5) (.call "_law_plus" (.cons (.met .get false (.v 3) (.cons (.v 5) (.cons (.tup (.cons (.int 0) (.cons (.int 1) .nil))) .nil))) (.cons (.call "_law_times" (.cons (.v 4) (.cons (.v 6) .nil)) [] .nil) .nil)) [] .nil)) .nil)
def f_law_due : Fn := ⟨7, ["shape", "label", "second"], (.cons (.set (.nm 3) (.blt .dict true (.cons (.ix (.v 0) (.int 1)) .nil))) (.cons (.set (.nm 4) (.met .pop false (.v 3) (.cons (.v 1) (.cons (.tup (.cons (.int 0) (.cons (.int 1) .nil))) .nil)))) (.cons l_law_due_1 (.cons (.ret (.call "_law_lain" (.cons (.call "_law_plus" (.cons (.ix (.v 0) (.int 0)) (.cons (.call "_law_times" (.cons (.v 4) (.cons (.ix (.v 2) (.int 0)) .nil)) [] .nil) .nil)) [] .nil) (.cons (.v 3) .nil)) [] .nil)) .nil)))), false⟩
def c_law_points_right_1 : Ae := .comp false (.call "_law_number" (.cons (.v 0) .nil) [] .nil) (.nm 10) (.ex (.v 1)) .none [("key", 10)]
def l_law_points_right_2 : As := .for (.nm 6) (.range1 (.int 2)) (.cons (.set (.nm 7) (.blt .tuple false (.cons c_law_points_right_1 .nil))) (.cons (.set (.nm 8) (.dzip (.v 1) (.v 7))) (.cons (.set (.nm 9) (.call "_law_worth" (.cons (.v 4) (.cons (.v 8) .nil)) [] .nil)) (.cons (.put (.v 8) (.v 3) (.v 9)) (.cons (.ite (.not (.call "_law_same" (.cons (.call "worth" (.cons (.v 5) (.cons (.v 1) (.cons (.v 7) .nil))) [] .nil) (.cons (.call "_law_worth" (.cons (.v 2) (.cons (.v 8) .nil)) [] .nil) .nil)) [] .nil)) (.cons (.ret (.bl false)) .nil) .nil) .nil)))))
def f_law_points_right : Fn := ⟨11, ["deck", "labels", "shape", "label", "second", "found"], (.cons l_law_points_right_2 (.cons (.ret (.bl true)) .nil)), false⟩
def f_law_once_right : Fn := ⟨6, ["deck", "labels", "shape"], (.cons (.set (.nm 3) (.ix (.v 1) (.call "_law_take" (.cons (.v 0) (.cons (.blt .len false (.cons (.v 1) .nil)) .nil)) [] .nil))) (.cons (.set (.nm 4) (.ix (.lst false (.cons (.call "_law_shape" (.cons (.v 0) (.cons (.v 1) .nil)) [] .nil) (.cons (.v 2) (.cons (.tup (.cons (.call "_law_number" (.cons (.v 0) .nil) [] .nil) (.cons (.tup .nil) .nil))) .nil)))) (.call "_law_take" (.cons (.v 0) (.cons (.int 3) .nil)) [] .nil))) (.cons (.set (.nm 5) (.call "_law_due" (.cons (.v 2) (.cons (.v 3) (.cons (.v 4) .nil))) [] .nil)) (.cons (.ite (.not (.call "_law_same" (.cons (.lst false (.cons (.call "put_in" (.cons (.v 2) (.cons (.v 3) (.cons (.v 4) .nil))) [] .nil) (.cons (.call "put_in" .nil ["other", "name", "form"] (.cons (.v 4) (.cons (.v 3) (.cons (.v 2) .nil)))) .nil))) (.cons (.lst false (.cons (.v 5) (.cons (.v 5) .nil))) .nil)) [] .nil)) (.cons (.ret .non) .nil) .nil) (.cons (.ite (.not (.call "_law_points_right" (.cons (.v 0) (.cons (.v 1) (.cons (.v 2) (.cons (.v 3) (.cons (.v 4) (.cons (.v 5) .nil)))))) [] .nil)) (.cons (.ret .non) .nil) .nil) (.cons (.ret (.v 5)) .nil)))))), false⟩
def l_law_1_v2 : As := .for (.nm 1) (.range1 (.blt .max false (.cons (.int 2) (.cons (.blt .min false (.cons (.blt .len false (.cons (.v 0) .nil)) (.cons (.int 16) .nil))) .nil)))) (.cons (.set (.nm 2) (.call "_law_deck" (.cons (.v 0) (.cons (.v 1) .nil)) [] .nil)) (.cons (.set (.nm 3) (.call "_law_labels" (.cons (.v 2) (.cons (.int 8) .nil)) [] .nil)) (.cons (.set (.nm 4) (.call "_law_shape" (.cons (.v 2) (.cons (.v 3) .nil)) [] .nil)) (.cons (.set (.nm 5) (.call "_law_once_right" (.cons (.v 2) (.cons (.v 3) (.cons (.v 4) .nil))) [] .nil)) (.cons (.ite (.or (.cons (.cmp .isN (.v 5) .non) (.cons (.cmp .isN (.call "_law_once_right" (.cons (.v 2) (.cons (.v 3) (.cons (.v 5) .nil))) [] .nil) .non) .nil))) (.cons (.ret (.bl false)) .nil) .nil) (.cons (.ite (.and (.cons (.cmp .nin (.str "zzzzzzzz") (.v 3)) (.cons (.not (.call "_law_same" (.cons (.call "put_in" (.cons (.v 4) (.cons (.str "zzzzzzzz") (.cons (.v 5) .nil))) [] .nil) (.cons (.v 4) .nil)) [] .nil)) .nil))) (.cons (.ret (.bl false)) .nil) .nil) .nil))))))
def f_law_v2 : Fn := ⟨6, ["script"], (.cons l_law_1_v2 (.cons (.ret (.bl true)) .nil)), false⟩
def f_is_within : Fn := ⟨3, ["value", "low", "high"], (.cons (.ret (.and (.cons (.call "is_integer" (.cons (.v 0) .nil) [] .nil) (.cons (.chain .le .le (.v 1) (.v 0) (.v 2)) .nil)))) .nil), false⟩
def f_is_wish : Fn := ⟨5, ["told"], (.cons (.ite (.or (.cons (.not (.isi (.v 0) ["tuple"])) (.cons (.cmp .ne (.blt .len false (.cons (.v 0) .nil)) (.int 4)) .nil))) (.cons (.ret (.bl false)) .nil) .nil) (.cons (.set (.tp (.cons (.nm 1) (.cons (.nm 2) (.cons (.nm 3) (.cons (.nm 4) .nil))))) (.v 0)) (.cons (.ite (.or (.cons (.not (.call "is_within" (.cons (.v 1) (.cons (.int 0) (.cons (.int 3) .nil))) [] .nil)) (.cons (.cmp .nin (.v 2) (.tup (.cons (.str "is") (.cons (.str "most") .nil)))) (.cons (.not (.call "is_form" (.cons (.v 3) .nil) [] .nil)) (.cons (.not (.call "is_number" (.cons (.v 4) .nil) [] .nil)) .nil))))) (.cons (.ret (.bl false)) .nil) .nil) (.cons (.ret (.ifx (.cmp .eq (.v 1) (.int 0)) (.cmp .eq (.v 4) (.con "ONE")) (.cmp .gt (.ix (.v 4) (.int 0)) (.int 0)))) .nil)))), false⟩
def c_are_names_1 : Ae := .comp false (.call "is_name" (.cons (.v 1) .nil) [] .nil) (.nm 1) (.ex (.v 0)) .none [("name", 1)]
def f_are_names : Fn := ⟨2, ["told"], (.cons (.ite (.or (.cons (.not (.isi (.v 0) ["tuple"])) (.cons (.cmp .eq (.blt .len false (.cons (.v 0) .nil)) (.int 0)) .nil))) (.cons (.ret (.bl false)) .nil) .nil) (.cons (.ret (.and (.cons (.blt .all false (.cons c_are_names_1 .nil)) (.cons (.call "is_ascending" (.cons (.v 0) .nil) [] .nil) .nil)))) .nil)), false⟩
def c_foreign_names_1 : Ae := .comp false (.v 2) (.tp (.cons (.nm 2) (.cons (.nm 3) .nil))) (.ex (.ix (.ix (.v 0) (.int 2)) (.int 1))) (.some (.cmp .nin (.v 2) (.v 1))) [("name", 2), ("number", 3)]
def f_foreign_names : Fn := ⟨4, ["wish", "names"], (.cons (.ret c_foreign_names_1) .nil), false⟩
def c_is_book_1 : Ae := .comp false (.and (.cons (.call "is_wish" (.cons (.v 1) .nil) [] .nil) (.cons (.cmp .eq (.call "foreign_names" (.cons (.v 1) (.cons (.ix (.v 0) (.int 0)) .nil)) [] .nil) (.lst false .nil)) .nil))) (.nm 1) (.ex (.ix (.v 0) (.int 1))) .none [("wish", 1)]
def f_is_book : Fn := ⟨2, ["told"], (.cons (.ite (.or (.cons (.not (.call "is_pair" (.cons (.v 0) .nil) [] .nil)) (.cons (.not (.call "are_names" (.cons (.ix (.v 0) (.int 0)) .nil) [] .nil)) (.cons (.not (.isi (.ix (.v 0) (.int 1)) ["tuple"])) .nil)))) (.cons (.ret (.bl false)) .nil) .nil) (.cons (.ret (.blt .all false (.cons c_is_book_1 .nil))) .nil)), false⟩
def f_law_weight : Fn := ⟨3, ["deck", "rank"], (.cons (.ite (.cmp .eq (.v 1) (.int 0)) (.cons (.ret (.tup (.cons (.int 1) (.cons (.int 1) .nil)))) .nil) .nil) (.cons (.set (.nm 2) (.lst false (.cons (.tup (.cons (.int 1) (.cons (.int 1) .nil))) (.cons (.tup (.cons (.int 2) (.cons (.int 1) .nil))) (.cons (.tup (.cons (.bin .add false (.int 1) (.call "_law_take" (.cons (.v 0) (.cons (.int 999999) .nil)) [] .nil)) (.cons (.int 1) .nil))) (.cons (.call "_law_pair" (.cons (.bin .add false (.int 1) (.call "_law_take" (.cons (.v 0) (.cons (.int 999) .nil)) [] .nil)) (.cons (.bin .add false (.int 1) (.call "_law_take" (.cons (.v 0) (.cons (.int 999) .nil)) [] .nil)) .nil)) [] .nil) .nil)))))) (.cons (.ret (.ix (.v 2) (.call "_law_take" (.cons (.v 0) (.cons (.int 4) .nil)) [] .nil))) .nil))), false⟩
def f_law_vow : Fn := ⟨3, ["deck", "labels", "rank"], (.cons (.ret (.tup (.cons (.v 2) (.cons (.ix (.lst false (.cons (.str "is") (.cons (.str "most") .nil))) (.call "_law_take" (.cons (.v 0) (.cons (.int 2) .nil)) [] .nil)) (.cons (.call "_law_shape" (.cons (.v 0) (.cons (.v 1) .nil)) [] .nil) (.cons (.call "_law_weight" (.cons (.v 0) (.cons (.v 2) .nil)) [] .nil) .nil)))))) .nil), false⟩
def c_law_ledger_1 : Ae := .comp false (.call "_law_vow" (.cons (.v 0) (.cons (.v 2) (.cons (.call "_law_take" (.cons (.v 0) (.cons (.int 4) .nil)) [] .nil) .nil))) [] .nil) (.nm 4) (.range1 (.blt .min false (.cons (.v 3) (.cons (.v 1) .nil)))) .none [("k", 4)]
def f_law_ledger : Fn := ⟨5, ["deck", "most"], (.cons (.set (.nm 2) (.call "_law_labels" (.cons (.v 0) (.cons (.ix (.lst false (.cons (.int 2) (.cons (.int 4) (.cons (.int 12) .nil)))) (.call "_law_take" (.cons (.v 0) (.cons (.int 3) .nil)) [] .nil)) .nil)) [] .nil)) (.cons (.set (.nm 3) (.ix (.lst false (.cons (.call "_law_take" (.cons (.v 0) (.cons (.int 4) .nil)) [] .nil) (.cons (.call "_law_take" (.cons (.v 0) (.cons (.int 9) .nil)) [] .nil) (.cons (.v 1) .nil)))) (.call "_law_take" (.cons (.v 0) (.cons (.int 3) .nil)) [] .nil))) (.cons (.ret (.tup (.cons (.v 2) (.cons (.blt .tuple false (.cons c_law_ledger_1 .nil)) .nil)))) .nil))), false⟩
def f_law_bent_label_v2 : Fn := ⟨5, ["deck", "label"], (.cons (.set (.nm 2) (.call "_law_take" (.cons (.v 0) (.cons (.blt .len false (.cons (.v 1) .nil)) .nil)) [] .nil)) (.cons (.set (.nm 3) (.ix (.str "AZ09_ .-|{") (.call "_law_take" (.cons (.v 0) (.cons (.int 10) .nil)) [] .nil))) (.cons (.set (.nm 4) (.lst false (.cons (.bin .add false (.bin .add false (.sl false (.v 1) .none (.some (.v 2))) (.v 3)) (.sl false (.v 1) (.some (.v 2)) .none)) (.cons (.str "") (.cons (.sl false (.bin .mul false (.v 1) (.int 9)) .none (.some (.int 9))) (.cons (.sl false (.bin .mul false (.v 1) (.int 8)) .none (.some (.int 8))) (.cons (.bin .add false (.v 1) (.str " ")) (.cons (.v 1) .nil)))))))) (.cons (.ret (.ix (.v 4) (.call "_law_take" (.cons (.v 0) (.cons (.int 6) .nil)) [] .nil))) .nil)))), false⟩
def f_law_bent_pair_v2 : Fn := ⟨5, ["deck", "pair"], (.cons (.set (.tp (.cons (.nm 2) (.cons (.nm 3) .nil))) (.v 1)) (.cons (.set (.nm 4) (.lst false (.cons (.tup (.cons (.bin .mul false (.v 2) (.int 3)) (.cons (.bin .mul false (.v 3) (.int 3)) .nil))) (.cons (.tup (.cons (.neg (.v 2)) (.cons (.neg (.v 3)) .nil))) (.cons (.tup (.cons (.v 2) (.cons (.int 0) .nil))) (.cons (.tup (.cons (.int 0) (.cons (.bin .add false (.v 3) (.int 1)) .nil))) (.cons (.tup (.cons (.int 0) (.cons (.int 1) .nil))) (.cons (.tup (.cons (.int 0) (.cons (.neg (.int 1)) .nil))) (.cons (.tup (.cons (.neg (.v 2)) (.cons (.v 3) .nil))) (.cons (.v 1) .nil)))))))))) (.cons (.ret (.ix (.v 4) (.call "_law_take" (.cons (.v 0) (.cons (.int 8) .nil)) [] .nil))) .nil))), false⟩
def f_law_bent_shape_v2 : Fn := ⟨8, ["deck", "shape"], (.cons (.set (.tp (.cons (.nm 2) (.cons (.nm 3) .nil))) (.v 1)) (.cons (.set (.nm 4) (.call "_law_take" (.cons (.v 0) (.cons (.int 6) .nil)) [] .nil)) (.cons (.ite (.cmp .eq (.v 4) (.int 0)) (.cons (.ret (.tup (.cons (.call "_law_bent_pair" (.cons (.v 0) (.cons (.v 2) .nil)) [] .nil) (.cons (.v 3) .nil)))) .nil) .nil) (.cons (.ite (.or (.cons (.cmp .eq (.v 4) (.int 1)) (.cons (.cmp .eq (.v 3) (.tup .nil)) .nil))) (.cons (.ret (.tup (.cons (.v 2) (.cons (.bin .add false (.v 3) (.tup (.cons (.tup (.cons (.call "_law_bent_label" (.cons (.v 0) (.cons (.call "_law_label" (.cons (.v 0) .nil) [] .nil) .nil)) [] .nil) (.cons (.call "_law_number" (.cons (.v 0) .nil) [] .nil) .nil))) .nil))) .nil)))) .nil) .nil) (.cons (.set (.nm 5) (.call "_law_take" (.cons (.v 0) (.cons (.blt .len false (.cons (.v 3) .nil)) .nil)) [] .nil)) (.cons (.set (.tp (.cons (.nm 6) (.cons (.nm 7) .nil))) (.ix (.v 3) (.v 5))) (.cons (.ite (.cmp .eq (.v 4) (.int 2)) (.cons (.ret (.tup (.cons (.v 2) (.cons (.bin .add false (.bin .add false (.sl false (.v 3) .none (.some (.v 5))) (.tup (.cons (.tup (.cons (.v 6) (.cons (.call "_law_bent_pair" (.cons (.v 0) (.cons (.v 7) .nil)) [] .nil) .nil))) .nil))) (.sl false (.v 3) (.some (.bin .add false (.v 5) (.int 1))) .none)) .nil)))) .nil) .nil) (.cons (.ite (.cmp .eq (.v 4) (.int 3)) (.cons (.ret (.tup (.cons (.v 2) (.cons (.bin .add false (.bin .add false (.sl false (.v 3) .none (.some (.v 5))) (.tup (.cons (.tup (.cons (.call "_law_bent_label" (.cons (.v 0) (.cons (.v 6) .nil)) [] .nil) (.cons (.v 7) .nil))) .nil))) (.sl false (.v 3) (.some (.bin .add false (.v 5) (.int 1))) .none)) .nil)))) .nil) .nil) (.cons (.ret (.tup (.cons (.v 2) (.cons (.ix (.lst false (.cons (.rev false (.v 3)) (.cons (.bin .add false (.v 3) (.tup (.cons (.ix (.v 3) (.v 5)) .nil))) .nil))) (.bin .sub false (.v 4) (.int 4))) .nil)))) .nil))))))))), false⟩
def c_law_is_shape_1_v2 : Ae := .comp false (.v 6) (.nm 6) (.ex (.v 4)) (.some (.cmp .nin (.v 6) (.str "abcdefghijklmnopqrstuvwxyz"))) [("sign", 6)]
def l_law_is_shape_2_v2 : As := .for (.nm 2) (.range1 (.blt .len false (.cons (.ix (.v 0) (.int 1)) .nil))) (.cons (.set (.tp (.cons (.nm 4) (.cons (.nm 5) .nil))) (.ix (.ix (.v 0) (.int 1)) (.v 2))) (.cons (.set (.nm 3) c_law_is_shape_1_v2) (.cons (.ite (.or (.cons (.cmp .ne (.v 3) (.lst false .nil)) (.cons (.not (.chain .le .le (.int 1) (.blt .len false (.cons (.v 4) .nil)) (.int 8))) (.cons (.not (.call "_law_is_pair" (.cons (.v 5) .nil) [] .nil)) (.cons (.cmp .eq (.ix (.v 5) (.int 0)) (.int 0)) .nil))))) (.cons (.ret (.bl false)) .nil) .nil) (.cons (.ite (.or (.cons (.and (.cons (.cmp .gt (.v 2) (.int 0)) (.cons (.not (.cmp .lt (.ix (.ix (.ix (.v 0) (.int 1)) (.bin .sub false (.v 2) (.int 1))) (.int 0)) (.v 4))) .nil))) (.cons (.and (.cons (.cmp .ne (.v 1) (.tup .nil)) (.cons (.cmp .nin (.v 4) (.v 1)) .nil))) .nil))) (.cons (.ret (.bl false)) .nil) .nil) .nil))))
def f_law_is_shape_v2 : Fn := ⟨7, ["shape", "labels"], (.cons (.ite (.not (.call "_law_is_pair" (.cons (.ix (.v 0) (.int 0)) .nil) [] .nil)) (.cons (.ret (.bl false)) .nil) .nil) (.cons l_law_is_shape_2_v2 (.cons (.ret (.bl true)) .nil))), false⟩
def f_law_is_vow : Fn := ⟨6, ["vow", "labels"], (.cons (.set (.tp (.cons (.nm 2) (.cons (.nm 3) (.cons (.nm 4) (.cons (.nm 5) .nil))))) (.v 0)) (.cons (.ite (.or (.cons (.cmp .nin (.v 2) (.lst false (.cons (.int 0) (.cons (.int 1) (.cons (.int 2) (.cons (.int 3) .nil)))))) (.cons (.cmp .nin (.v 3) (.lst false (.cons (.str "is") (.cons (.str "most") .nil)))) (.cons (.not (.call "_law_is_shape" (.cons (.v 4) (.cons (.v 1) .nil)) [] .nil)) .nil)))) (.cons (.ret (.bl false)) .nil) .nil) (.cons (.ite (.cmp .eq (.v 2) (.int 0)) (.cons (.ret (.cmp .eq (.v 5) (.tup (.cons (.int 1) (.cons (.int 1) .nil))))) .nil) .nil) (.cons (.ret (.and (.cons (.call "_law_is_pair" (.cons (.v 5) .nil) [] .nil) (.cons (.cmp .gt (.ix (.v 5) (.int 0)) (.int 0)) .nil)))) .nil)))), false⟩
def f_law_bent_vow : Fn := ⟨7, ["deck", "vow"], (.cons (.set (.tp (.cons (.nm 2) (.cons (.nm 3) (.cons (.nm 4) (.cons (.nm 5) .nil))))) (.v 1)) (.cons (.set (.nm 6) (.call "_law_take" (.cons (.v 0) (.cons (.int 5) .nil)) [] .nil)) (.cons (.ite (.cmp .eq (.v 6) (.int 0)) (.cons (.ret (.tup (.cons (.ix (.lst false (.cons (.neg (.int 1)) (.cons (.int 4) (.cons (.int 0) (.cons (.int 3) (.cons (.bin .pow false (.int 10) (.int 20)) (.cons (.int 1) .nil))))))) (.call "_law_take" (.cons (.v 0) (.cons (.int 6) .nil)) [] .nil)) (.cons (.v 3) (.cons (.v 4) (.cons (.v 5) .nil)))))) .nil) .nil) (.cons (.ite (.cmp .eq (.v 6) (.int 1)) (.cons (.ret (.tup (.cons (.v 2) (.cons (.ix (.lst false (.cons (.str "least") (.cons (.str "") (.cons (.str "Is") (.cons (.str "is ") (.cons (.str "most") (.cons (.str "is") .nil))))))) (.call "_law_take" (.cons (.v 0) (.cons (.int 6) .nil)) [] .nil)) (.cons (.v 4) (.cons (.v 5) .nil)))))) .nil) .nil) (.cons (.ite (.cmp .eq (.v 6) (.int 2)) (.cons (.ret (.tup (.cons (.v 2) (.cons (.v 3) (.cons (.call "_law_bent_shape" (.cons (.v 0) (.cons (.v 4) .nil)) [] .nil) (.cons (.v 5) .nil)))))) .nil) .nil) (.cons (.ite (.cmp .eq (.v 6) (.int 3)) (.cons (.ret (.tup (.cons (.v 2) (.cons (.v 3) (.cons (.v 4) (.cons (.call "_law_bent_pair" (.cons (.v 0) (.cons (.v 5) .nil)) [] .nil) .nil)))))) .nil) .nil) (.cons (.ret (.tup (.cons (.v 2) (.cons (.v 3) (.cons (.v 4) (.cons (.ix (.lst false (.cons (.tup (.cons (.int 2) (.cons (.int 1) .nil))) (.cons (.tup (.cons (.int 1) (.cons (.int 1) .nil))) (.cons (.tup (.cons (.int 0) (.cons (.int 1) .nil))) (.cons (.tup (.cons (.neg (.int 1)) (.cons (.int 1) .nil))) (.cons (.tup (.cons (.int 1) (.cons (.int 2) .nil))) (.cons (.tup (.cons (.int 2) (.cons (.int 2) .nil))) .nil))))))) (.call "_law_take" (.cons (.v 0) (.cons (.int 6) .nil)) [] .nil)) .nil)))))) .nil))))))), false⟩
def f_law_bent_ledger : Fn := ⟨7, ["deck", "ledger"], (.cons (.set (.tp (.cons (.nm 2) (.cons (.nm 3) .nil))) (.v 1)) (.cons (.set (.tp (.cons (.nm 4) (.cons (.nm 5) .nil))) (.tup (.cons (.call "_law_take" (.cons (.v 0) (.cons (.int 8) .nil)) [] .nil) (.cons (.call "_law_take" (.cons (.v 0) (.cons (.blt .len false (.cons (.v 2) .nil)) .nil)) [] .nil) .nil)))) (.cons (.ite (.cmp .eq (.v 4) (.int 0)) (.cons (.ret (.tup (.cons (.ix (.lst false (.cons (.rev false (.v 2)) (.cons (.bin .add false (.v 2) (.sl false (.v 2) .none (.some (.int 1)))) (.cons (.bin .add false (.bin .add false (.sl false (.v 2) .none (.some (.v 5))) (.sl false (.v 2) (.some (.v 5)) (.some (.bin .add false (.v 5) (.int 1))))) (.sl false (.v 2) (.some (.v 5)) .none)) .nil)))) (.call "_law_take" (.cons (.v 0) (.cons (.int 3) .nil)) [] .nil)) (.cons (.v 3) .nil)))) .nil) .nil) (.cons (.ite (.cmp .eq (.v 4) (.int 1)) (.cons (.ret (.tup (.cons (.bin .add false (.bin .add false (.sl false (.v 2) .none (.some (.v 5))) (.tup (.cons (.call "_law_bent_label" (.cons (.v 0) (.cons (.ix (.v 2) (.v 5)) .nil)) [] .nil) .nil))) (.sl false (.v 2) (.some (.bin .add false (.v 5) (.int 1))) .none)) (.cons (.v 3) .nil)))) .nil) .nil) (.cons (.ite (.cmp .eq (.v 4) (.int 2)) (.cons (.ret (.tup (.cons (.ix (.lst false (.cons (.tup .nil) (.cons (.bin .add false (.sl false (.v 2) .none (.some (.v 5))) (.sl false (.v 2) (.some (.bin .add false (.v 5) (.int 1))) .none)) .nil))) (.call "_law_take" (.cons (.v 0) (.cons (.int 2) .nil)) [] .nil)) (.cons (.v 3) .nil)))) .nil) .nil) (.cons (.ite (.or (.cons (.cmp .eq (.v 3) (.tup .nil)) (.cons (.cmp .eq (.v 4) (.int 3)) .nil))) (.cons (.set (.nm 6) (.call "_law_vow" (.cons (.v 0) (.cons (.call "_law_labels" (.cons (.v 0) (.cons (.int 3) .nil)) [] .nil) (.cons (.call "_law_take" (.cons (.v 0) (.cons (.int 4) .nil)) [] .nil) .nil))) [] .nil)) (.cons (.ret (.tup (.cons (.v 2) (.cons (.bin .add false (.v 3) (.tup (.cons (.v 6) .nil))) .nil)))) .nil)) .nil) (.cons (.set (.nm 5) (.call "_law_take" (.cons (.v 0) (.cons (.blt .len false (.cons (.v 3) .nil)) .nil)) [] .nil)) (.cons (.ret (.tup (.cons (.v 2) (.cons (.bin .add false (.bin .add false (.sl false (.v 3) .none (.some (.v 5))) (.tup (.cons (.call "_law_bent_vow" (.cons (.v 0) (.cons (.ix (.v 3) (.v 5)) .nil)) [] .nil) .nil))) (.sl false (.v 3) (.some (.bin .add false (.v 5) (.int 1))) .none)) .nil)))) .nil)))))))), false⟩
def c_law_is_ledger_1 : Ae := .comp false (.v 3) (.nm 3) (.range2 (.int 1) (.blt .len false (.cons (.v 1) .nil))) (.some (.not (.cmp .lt (.ix (.v 1) (.bin .sub false (.v 3) (.int 1))) (.ix (.v 1) (.v 3))))) [("k", 3)]
def c_law_is_ledger_2 : Ae := .comp false (.v 5) (.nm 5) (.ex (.v 4)) (.some (.cmp .nin (.v 5) (.str "abcdefghijklmnopqrstuvwxyz"))) [("sign", 5)]
def l_law_is_ledger_3 : As := .for (.nm 4) (.ex (.v 1)) (.cons (.ite (.or (.cons (.not (.chain .le .le (.int 1) (.blt .len false (.cons (.v 4) .nil)) (.int 8))) (.cons (.cmp .ne c_law_is_ledger_2 (.lst false .nil)) .nil))) (.cons (.ret (.bl false)) .nil) .nil) .nil)
def c_law_is_ledger_4 : Ae := .comp false (.v 6) (.nm 6) (.ex (.v 2)) (.some (.not (.call "_law_is_vow" (.cons (.v 6) (.cons (.v 1) .nil)) [] .nil))) [("vow", 6)]
def f_law_is_ledger : Fn := ⟨7, ["ledger"], (.cons (.set (.tp (.cons (.nm 1) (.cons (.nm 2) .nil))) (.v 0)) (.cons (.ite (.or (.cons (.cmp .eq (.v 1) (.tup .nil)) (.cons (.cmp .ne c_law_is_ledger_1 (.lst false .nil)) .nil))) (.cons (.ret (.bl false)) .nil) .nil) (.cons l_law_is_ledger_3 (.cons (.ret (.cmp .eq c_law_is_ledger_4 (.lst false .nil))) .nil)))), false⟩
def l_law_1_v3 : As := .for (.nm 5) (.range1 (.int 6)) (.cons (.ite (.not (.call "_law_told_right" (.cons (.call "_law_bent_vow" (.cons (.v 2) (.cons (.v 4) .nil)) [] .nil) (.cons (.call "_law_bent_ledger" (.cons (.v 2) (.cons (.v 3) .nil)) [] .nil) .nil)) [] .nil)) (.cons (.ret (.bl false)) .nil) .nil) .nil)
def l_law_2_v3 : As := .for (.nm 1) (.range1 (.blt .max false (.cons (.int 2) (.cons (.blt .min false (.cons (.blt .len false (.cons (.v 0) .nil)) (.cons (.int 16) .nil))) .nil)))) (.cons (.set (.nm 2) (.call "_law_deck" (.cons (.v 0) (.cons (.v 1) .nil)) [] .nil)) (.cons (.set (.nm 3) (.call "_law_ledger" (.cons (.v 2) (.cons (.int 39) .nil)) [] .nil)) (.cons (.set (.nm 4) (.call "_law_vow" (.cons (.v 2) (.cons (.ix (.v 3) (.int 0)) (.cons (.call "_law_take" (.cons (.v 2) (.cons (.int 4) .nil)) [] .nil) .nil))) [] .nil)) (.cons (.ite (.or (.cons (.not (.call "_law_told_right" (.cons (.v 4) (.cons (.v 3) .nil)) [] .nil)) (.cons (.not (.call "_law_same" (.cons (.lst false (.cons (.call "is_wish" (.cons (.v 4) .nil) [] .nil) (.cons (.call "is_book" (.cons (.v 3) .nil) [] .nil) .nil))) (.cons (.lst false (.cons (.bl true) (.cons (.bl true) .nil))) .nil)) [] .nil)) .nil))) (.cons (.ret (.bl false)) .nil) .nil) (.cons l_law_1_v3 .nil)))))
def f_law_v3 : Fn := ⟨6, ["script"], (.cons l_law_2_v3 (.cons (.ret (.bl true)) .nil)), false⟩
def f_is_less : Fn := ⟨2, ["a", "b"], (.cons (.ret (.cmp .lt (.bin .mul false (.ix (.v 0) (.int 0)) (.ix (.v 1) (.int 1))) (.bin .mul false (.ix (.v 1) (.int 0)) (.ix (.v 0) (.int 1))))) .nil), false⟩
def f_size_of : Fn := ⟨1, ["a"], (.cons (.ret (.tup (.cons (.blt .abs false (.cons (.ix (.v 0) (.int 0)) .nil)) (.cons (.ix (.v 0) (.int 1)) .nil)))) .nil), false⟩
def f_check_book : Fn := ⟨1, ["book"], (.cons (.ite (.not (.call "is_book" (.cons (.v 0) .nil) [] .nil)) (.cons (.rais "InvalidBook" (.v 0) false) .nil) .nil) .nil), false⟩
def f_check_wish : Fn := ⟨1, ["wish"], (.cons (.ite (.not (.call "is_wish" (.cons (.v 0) .nil) [] .nil)) (.cons (.rais "InvalidWish" (.v 0) false) .nil) .nil) .nil), false⟩
def c_is_point_1 : Ae := .comp false (.call "is_number" (.cons (.v 2) .nil) [] .nil) (.nm 2) (.ex (.v 1)) .none [("a", 2)]
def f_is_point : Fn := ⟨3, ["names", "told"], (.cons (.ret (.and (.cons (.isi (.v 1) ["tuple"]) (.cons (.cmp .eq (.blt .len false (.cons (.v 1) .nil)) (.blt .len false (.cons (.v 0) .nil))) (.cons (.blt .all false (.cons c_is_point_1 .nil)) .nil))))) .nil), false⟩
def f_check_point : Fn := ⟨2, ["names", "point"], (.cons (.ite (.not (.call "is_point" (.cons (.v 0) (.cons (.v 1) .nil)) [] .nil)) (.cons (.rais "InvalidPoint" (.v 1) false) .nil) .nil) .nil), false⟩
def f_is_stage : Fn := ⟨2, ["book", "told"], (.cons (.ret (.ifx (.call "is_integer" (.cons (.v 1) .nil) [] .nil) (.cmp .inn (.v 1) (.con "RANKS")) (.cmp .inn (.v 1) (.ix (.v 0) (.int 0))))) .nil), false⟩
def f_check_stage : Fn := ⟨2, ["book", "stage"], (.cons (.ite (.not (.call "is_stage" (.cons (.v 0) (.cons (.v 1) .nil)) [] .nil)) (.cons (.rais "InvalidStage" (.v 1) false) .nil) .nil) .nil), false⟩
def f_table_of : Fn := ⟨2, ["names", "point"], (.cons (.ret (.dzip (.v 0) (.v 1))) .nil), false⟩
def c_wishes_of_1 : Ae := .comp false (.v 2) (.nm 2) (.ex (.ix (.v 0) (.int 1))) (.some (.cmp .eq (.ix (.v 2) (.int 0)) (.v 1))) [("wish", 2)]
def f_wishes_of : Fn := ⟨3, ["book", "rank"], (.cons (.ret c_wishes_of_1) .nil), false⟩
def f_break_at : Fn := ⟨3, ["wish", "table"], (.cons (.set (.nm 2) (.call "worth_at" (.cons (.ix (.v 0) (.int 2)) (.cons (.v 1) .nil)) [] .nil)) (.cons (.ite (.cmp .eq (.ix (.v 0) (.int 1)) (.str "is")) (.cons (.ret (.call "size_of" (.cons (.v 2) .nil) [] .nil)) .nil) .nil) (.cons (.ret (.ifx (.cmp .gt (.ix (.v 2) (.int 0)) (.int 0)) (.v 2) (.con "ZERO"))) .nil))), false⟩
def c_let_at_1 : Ae := .comp false (.cmp .eq (.call "break_at" (.cons (.v 2) (.cons (.v 1) .nil)) [] .nil) (.con "ZERO")) (.nm 2) (.ex (.call "wishes_of" (.cons (.v 0) (.cons (.int 0) .nil)) [] .nil)) .none [("wish", 2)]
def f_let_at : Fn := ⟨3, ["book", "table"], (.cons (.ret (.blt .all false (.cons c_let_at_1 .nil))) .nil), false⟩
def f_all_stages : Fn := ⟨1, ["book"], (.cons (.ret (.lstS true (.star (.con "RANKS") (.star (.ix (.v 0) (.int 0)) .nil)))) .nil), true⟩
def c_count_at_1 : Ae := .comp false (.call "product" (.cons (.ix (.v 3) (.int 3)) (.cons (.call "break_at" (.cons (.v 3) (.cons (.v 2) .nil)) [] .nil) .nil)) [] .nil) (.nm 3) (.ex (.call "wishes_of" (.cons (.v 0) (.cons (.v 1) .nil)) [] .nil)) .none [("wish", 3)]
def f_count_at : Fn := ⟨4, ["book", "stage", "table"], (.cons (.ite (.cmp .inn (.v 1) (.con "RANKS")) (.cons (.ret (.call "sum_of_all" (.cons c_count_at_1 .nil) [] .nil)) .nil) .nil) (.cons (.ret (.call "size_of" (.cons (.ix (.v 2) (.v 1)) .nil) [] .nil)) .nil)), false⟩
def c_all_counts_1 : Ae := .comp false (.call "count_at" (.cons (.v 0) (.cons (.v 2) (.cons (.v 1) .nil))) [] .nil) (.nm 2) (.ex (.call "all_stages" (.cons (.v 0) .nil) [] .nil)) .none [("stage", 2)]
def f_all_counts : Fn := ⟨3, ["book", "table"], (.cons (.ret (.blt .tuple false (.cons c_all_counts_1 .nil))) .nil), false⟩
def l_first_less_1 : As := .for (.tp (.cons (.nm 2) (.cons (.nm 3) .nil))) (.zip2 (.v 0) (.v 1)) (.cons (.ite (.cmp .ne (.v 2) (.v 3)) (.cons (.ret (.ifx (.call "is_less" (.cons (.v 2) (.cons (.v 3) .nil)) [] .nil) (.neg (.int 1)) (.int 1))) .nil) .nil) .nil)
def f_first_less : Fn := ⟨4, ["one", "other"], (.cons l_first_less_1 (.cons (.ret (.int 0)) .nil)), false⟩
def l_broken_by_1 : As := .for (.nm 3) (.ex (.call "foreign_names" (.cons (.v 0) (.cons (.v 1) .nil)) [] .nil)) (.cons (.rais "InvalidName" (.v 3) false) .nil)
def f_broken_by : Fn := ⟨4, ["wish", "names", "point"], (.cons (.ex (.call "check_wish" (.cons (.v 0) .nil) [] .nil)) (.cons (.ex (.call "check_point" (.cons (.v 1) (.cons (.v 2) .nil)) [] .nil)) (.cons l_broken_by_1 (.cons (.ret (.call "break_at" (.cons (.v 0) (.cons (.call "table_of" (.cons (.v 1) (.cons (.v 2) .nil)) [] .nil) .nil)) [] .nil)) .nil)))), false⟩
def f_is_let : Fn := ⟨2, ["book", "point"], (.cons (.ex (.call "check_book" (.cons (.v 0) .nil) [] .nil)) (.cons (.ex (.call "check_point" (.cons (.ix (.v 0) (.int 0)) (.cons (.v 1) .nil)) [] .nil)) (.cons (.ret (.call "let_at" (.cons (.v 0) (.cons (.call "table_of" (.cons (.ix (.v 0) (.int 0)) (.cons (.v 1) .nil)) [] .nil) .nil)) [] .nil)) .nil))), false⟩
def f_stages : Fn := ⟨1, ["book"], (.cons (.ex (.call "check_book" (.cons (.v 0) .nil) [] .nil)) (.cons (.ret (.call "all_stages" (.cons (.v 0) .nil) [] .nil)) .nil)), true⟩
def f_counted : Fn := ⟨3, ["book", "stage", "point"], (.cons (.ex (.call "check_book" (.cons (.v 0) .nil) [] .nil)) (.cons (.ex (.call "check_point" (.cons (.ix (.v 0) (.int 0)) (.cons (.v 2) .nil)) [] .nil)) (.cons (.ex (.call "check_stage" (.cons (.v 0) (.cons (.v 1) .nil)) [] .nil)) (.cons (.ret (.call "count_at" (.cons (.v 0) (.cons (.v 1) (.cons (.call "table_of" (.cons (.ix (.v 0) (.int 0)) (.cons (.v 2) .nil)) [] .nil) .nil))) [] .nil)) .nil)))), false⟩
def f_counts : Fn := ⟨2, ["book", "point"], (.cons (.ex (.call "check_book" (.cons (.v 0) .nil) [] .nil)) (.cons (.ex (.call "check_point" (.cons (.ix (.v 0) (.int 0)) (.cons (.v 1) .nil)) [] .nil)) (.cons (.ret (.call "all_counts" (.cons (.v 0) (.cons (.call "table_of" (.cons (.ix (.v 0) (.int 0)) (.cons (.v 1) .nil)) [] .nil) .nil)) [] .nil)) .nil))), false⟩
def f_compared : Fn := ⟨7, ["book", "one", "other"], (.cons (.ex (.call "check_book" (.cons (.v 0) .nil) [] .nil)) (.cons (.ex (.call "check_point" (.cons (.ix (.v 0) (.int 0)) (.cons (.v 1) .nil)) [] .nil)) (.cons (.ex (.call "check_point" (.cons (.ix (.v 0) (.int 0)) (.cons (.v 2) .nil)) [] .nil)) (.cons (.set (.tp (.cons (.nm 3) (.cons (.nm 4) .nil))) (.tup (.cons (.call "table_of" (.cons (.ix (.v 0) (.int 0)) (.cons (.v 1) .nil)) [] .nil) (.cons (.call "table_of" (.cons (.ix (.v 0) (.int 0)) (.cons (.v 2) .nil)) [] .nil) .nil)))) (.cons (.set (.nm 5) (.tup (.cons (.call "let_at" (.cons (.v 0) (.cons (.v 3) .nil)) [] .nil) (.cons (.call "let_at" (.cons (.v 0) (.cons (.v 4) .nil)) [] .nil) .nil)))) (.cons (.ite (.cmp .ne (.ix (.v 5) (.int 0)) (.ix (.v 5) (.int 1))) (.cons (.ret (.ifx (.ix (.v 5) (.int 0)) (.neg (.int 1)) (.int 1))) .nil) .nil) (.cons (.set (.nm 6) (.ifx (.ix (.v 5) (.int 0)) (.call "first_less" (.cons (.call "all_counts" (.cons (.v 0) (.cons (.v 3) .nil)) [] .nil) (.cons (.call "all_counts" (.cons (.v 0) (.cons (.v 4) .nil)) [] .nil) .nil)) [] .nil) (.int 0))) (.cons (.ret (.ifx (.cmp .ne (.v 6) (.int 0)) (.v 6) (.call "first_less" (.cons (.v 1) (.cons (.v 2) .nil)) [] .nil))) .nil)))))))), false⟩
def f_law_less : Fn := ⟨2, ["m", "n"], (.cons (.ret (.cmp .lt (.bin .sub false (.bin .mul false (.ix (.v 0) (.int 0)) (.ix (.v 1) (.int 1))) (.bin .mul false (.ix (.v 1) (.int 0)) (.ix (.v 0) (.int 1)))) (.int 0))) .nil), false⟩
def f_law_number_v2 : Fn := ⟨3, ["deck"], (.cons (.set (.nm 1) (.call "_law_take" (.cons (.v 0) (.cons (.int 6) .nil)) [] .nil)) (.cons (.ite (.cmp .eq (.v 1) (.int 0)) (.cons (.ret (.tup (.cons (.bin .sub false (.call "_law_take" (.cons (.v 0) (.cons (.int 3) .nil)) [] .nil) (.int 1)) (.cons (.int 1) .nil)))) .nil) .nil) (.cons (.ite (.cmp .eq (.v 1) (.int 1)) (.cons (.ret (.tup (.cons (.bin .sub false (.call "_law_take" (.cons (.v 0) (.cons (.int 41) .nil)) [] .nil) (.int 20)) (.cons (.int 1) .nil)))) .nil) .nil) (.cons (.ite (.cmp .lt (.v 1) (.int 4)) (.cons (.ret (.call "_law_pair" (.cons (.bin .sub false (.call "_law_take" (.cons (.v 0) (.cons (.int 41) .nil)) [] .nil) (.int 20)) (.cons (.bin .add false (.int 1) (.call "_law_take" (.cons (.v 0) (.cons (.int 12) .nil)) [] .nil)) .nil)) [] .nil)) .nil) .nil) (.cons (.ite (.cmp .eq (.v 1) (.int 4)) (.cons (.ret (.call "_law_pair" (.cons (.bin .sub false (.call "_law_take" (.cons (.v 0) (.cons (.int 1999999) .nil)) [] .nil) (.int 999999)) (.cons (.int 1) .nil)) [] .nil)) .nil) .nil) (.cons (.set (.nm 2) (.ix (.lst false (.cons (.int 720720) (.cons (.int 510510) (.cons (.int 500000) (.cons (.int 999999) (.cons (.int 30030) (.cons (.int 360360) (.cons (.int 27720) (.cons (.int 65536) .nil))))))))) (.call "_law_take" (.cons (.v 0) (.cons (.int 8) .nil)) [] .nil))) (.cons (.ret (.call "_law_pair" (.cons (.bin .sub false (.call "_law_take" (.cons (.v 0) (.cons (.int 1999999) .nil)) [] .nil) (.int 999999)) (.cons (.v 2) .nil)) [] .nil)) .nil))))))), false⟩
def c_law_spots_1 : Ae := .comp false (.call "_law_pair" (.cons (.bin .sub false (.call "_law_take" (.cons (.v 0) (.cons (.int 19) .nil)) [] .nil) (.int 9)) (.cons (.bin .add false (.int 1) (.call "_law_take" (.cons (.v 0) (.cons (.int 2) .nil)) [] .nil)) .nil)) [] .nil) (.nm 8) (.ex (.v 1)) .none [("label", 8)]
def c_law_spots_2 : Ae := .comp false (.call "_law_number" (.cons (.v 0) .nil) [] .nil) (.nm 8) (.ex (.v 1)) .none [("label", 8)]
def c_law_spots_3 : Ae := .comp false (.bin .sub false (.bin .mul false (.int 2) (.call "_law_take" (.cons (.v 0) (.cons (.int 2) .nil)) [] .nil)) (.int 1)) (.nm 8) (.ex (.v 1)) .none [("label", 8)]
def c_law_spots_4 : Ae := .comp false (.tup (.cons (.bin .mul false (.ix (.ix (.ix (.v 3) (.int 0)) (.v 9)) (.int 0)) (.ix (.v 6) (.v 9))) (.cons (.ix (.ix (.ix (.v 3) (.int 0)) (.v 9)) (.int 1)) .nil))) (.nm 9) (.range1 (.blt .len false (.cons (.v 1) .nil))) .none [("j", 9)]
def l_law_spots_5 : As := .for (.nm 4) (.range1 (.v 2)) (.cons (.set (.nm 5) (.blt .tuple false (.cons c_law_spots_1 .nil))) (.cons (.ite (.and (.cons (.cmp .gt (.v 4) (.int 1)) (.cons (.cmp .eq (.call "_law_take" (.cons (.v 0) (.cons (.int 2) .nil)) [] .nil) (.int 0)) .nil))) (.cons (.set (.nm 5) (.blt .tuple false (.cons c_law_spots_2 .nil))) .nil) .nil) (.cons (.ite (.and (.cons (.cmp .gt (.v 4) (.int 0)) (.cons (.cmp .eq (.call "_law_take" (.cons (.v 0) (.cons (.int 3) .nil)) [] .nil) (.int 0)) .nil))) (.cons (.set (.nm 6) c_law_spots_3) (.cons (.set (.nm 5) (.blt .tuple false (.cons c_law_spots_4 .nil))) .nil)) .nil) (.cons (.ite (.and (.cons (.cmp .gt (.v 4) (.int 0)) (.cons (.cmp .eq (.call "_law_take" (.cons (.v 0) (.cons (.int 4) .nil)) [] .nil) (.int 0)) .nil))) (.cons (.set (.nm 7) (.call "_law_take" (.cons (.v 0) (.cons (.blt .len false (.cons (.v 1) .nil)) .nil)) [] .nil)) (.cons (.set (.nm 5) (.bin .add false (.bin .add false (.sl false (.ix (.v 3) (.int 0)) .none (.some (.v 7))) (.tup (.cons (.ix (.v 5) (.v 7)) .nil))) (.sl false (.ix (.v 3) (.int 0)) (.some (.bin .add false (.v 7) (.int 1))) .none))) .nil)) .nil) (.cons (.ex (.met .append false (.v 3) (.cons (.v 5) .nil))) .nil)))))
def f_law_spots : Fn := ⟨10, ["deck", "labels", "many"], (.cons (.set (.nm 3) (.lst true .nil)) (.cons l_law_spots_5 (.cons (.ret (.v 3)) .nil))), false⟩
def c_law_must_1 : Ae := .comp false (.dzip (.v 1) (.v 4)) (.nm 4) (.ex (.sl false (.v 2) .none (.some (.int 2)))) .none [("spot", 4)]
def l_law_must_2 : As := .for (.nm 12) (.ex (.v 1)) (.cons (.ite (.cmp .eq (.call "_law_take" (.cons (.v 0) (.cons (.int 2) .nil)) [] .nil) (.int 0)) (.cons (.put (.v 11) (.v 12) (.call "_law_pair" (.cons (.bin .sub false (.call "_law_take" (.cons (.v 0) (.cons (.int 19) .nil)) [] .nil) (.int 9)) (.cons (.bin .add false (.int 1) (.call "_law_take" (.cons (.v 0) (.cons (.int 3) .nil)) [] .nil)) .nil)) [] .nil)) .nil) .nil) .nil)
def c_law_must_3 : Ae := .comp false (.call "_law_worth" (.cons (.v 9) (.cons (.v 14) .nil)) [] .nil) (.nm 14) (.ex (.v 3)) .none [("table", 14)]
def f_law_must : Fn := ⟨16, ["deck", "labels", "spots"], (.cons (.set (.nm 3) c_law_must_1) (.cons (.set (.tp (.cons (.nm 5) (.cons (.nm 6) .nil))) (.tup (.cons (.call "_law_take" (.cons (.v 0) (.cons (.blt .len false (.cons (.v 1) .nil)) .nil)) [] .nil) (.cons (.call "_law_take" (.cons (.v 0) (.cons (.blt .len false (.cons (.v 1) .nil)) .nil)) [] .nil) .nil)))) (.cons (.ite (.and (.cons (.cmp .eq (.call "_law_take" (.cons (.v 0) (.cons (.int 2) .nil)) [] .nil) (.int 0)) (.cons (.cmp .ne (.v 5) (.v 6)) .nil))) (.cons (.set (.nm 7) (.call "_law_plus" (.cons (.ix (.ix (.v 2) (.int 0)) (.v 5)) (.cons (.tup (.cons (.neg (.ix (.ix (.ix (.v 2) (.int 1)) (.v 5)) (.int 0))) (.cons (.ix (.ix (.ix (.v 2) (.int 1)) (.v 5)) (.int 1)) .nil))) .nil)) [] .nil)) (.cons (.set (.nm 8) (.call "_law_plus" (.cons (.ix (.ix (.v 2) (.int 0)) (.v 6)) (.cons (.tup (.cons (.neg (.ix (.ix (.ix (.v 2) (.int 1)) (.v 6)) (.int 0))) (.cons (.ix (.ix (.ix (.v 2) (.int 1)) (.v 6)) (.int 1)) .nil))) .nil)) [] .nil)) (.cons (.set (.nm 9) (.call "_law_lain" (.cons (.tup (.cons (.int 0) (.cons (.int 1) .nil))) (.cons (.dnew (.cons (.ix (.v 1) (.v 5)) (.v 8) (.cons (.ix (.v 1) (.v 6)) (.tup (.cons (.neg (.ix (.v 7) (.int 0))) (.cons (.ix (.v 7) (.int 1)) .nil))) .nil))) .nil)) [] .nil)) (.cons (.set (.nm 10) (.call "_law_worth" (.cons (.v 9) (.cons (.ix (.v 3) (.int 0)) .nil)) [] .nil)) (.cons (.ret (.tup (.cons (.int 0) (.cons (.str "is") (.cons (.tup (.cons (.tup (.cons (.neg (.ix (.v 10) (.int 0))) (.cons (.ix (.v 10) (.int 1)) .nil))) (.cons (.ix (.v 9) (.int 1)) .nil))) (.cons (.tup (.cons (.int 1) (.cons (.int 1) .nil))) .nil)))))) .nil))))) .nil) (.cons (.set (.nm 11) (.dnew .nil)) (.cons l_law_must_2 (.cons (.set (.nm 9) (.call "_law_lain" (.cons (.tup (.cons (.int 0) (.cons (.int 1) .nil))) (.cons (.v 11) .nil)) [] .nil)) (.cons (.set (.nm 13) c_law_must_3) (.cons (.set (.nm 15) (.ix (.v 13) (.blt .int false (.cons (.call "_law_less" (.cons (.ix (.v 13) (.int 0)) (.cons (.ix (.v 13) (.int 1)) .nil)) [] .nil) .nil)))) (.cons (.set (.nm 10) (.call "_law_plus" (.cons (.tup (.cons (.neg (.ix (.v 15) (.int 0))) (.cons (.ix (.v 15) (.int 1)) .nil))) (.cons (.tup (.cons (.neg (.call "_law_take" (.cons (.v 0) (.cons (.int 3) .nil)) [] .nil)) (.cons (.int 1) .nil))) .nil)) [] .nil)) (.cons (.ret (.tup (.cons (.int 0) (.cons (.str "most") (.cons (.tup (.cons (.v 10) (.cons (.ix (.v 9) (.int 1)) .nil))) (.cons (.tup (.cons (.int 1) (.cons (.int 1) .nil))) .nil)))))) .nil)))))))))), false⟩
def c_law_kind_ledger_1 : Ae := .comp true (.call "_law_vow" (.cons (.v 0) (.cons (.v 1) (.cons (.bin .add false (.int 1) (.call "_law_take" (.cons (.v 0) (.cons (.int 3) .nil)) [] .nil)) .nil))) [] .nil) (.nm 5) (.range1 (.ix (.lst false (.cons (.int 0) (.cons (.int 1) (.cons (.int 2) (.cons (.int 5) (.cons (.v 3) .nil)))))) (.call "_law_take" (.cons (.v 0) (.cons (.int 5) .nil)) [] .nil))) .none [("k", 5)]
def l_law_kind_ledger_2 : As := .for (.nm 5) (.range1 (.call "_law_take" (.cons (.v 0) (.cons (.int 4) .nil)) [] .nil)) (.cons (.ex (.met .insert false (.v 4) (.cons (.call "_law_take" (.cons (.v 0) (.cons (.bin .add false (.blt .len false (.cons (.v 4) .nil)) (.int 1)) .nil)) [] .nil) (.cons (.call "_law_must" (.cons (.v 0) (.cons (.v 1) (.cons (.v 2) .nil))) [] .nil) .nil)))) .nil)
def f_law_kind_ledger : Fn := ⟨6, ["deck", "labels", "spots", "most"], (.cons (.set (.nm 4) c_law_kind_ledger_1) (.cons l_law_kind_ledger_2 (.cons (.ret (.tup (.cons (.v 1) (.cons (.blt .tuple false (.cons (.v 4) .nil)) .nil)))) .nil))), false⟩
def f_law_broken : Fn := ⟨3, ["vow", "table"], (.cons (.set (.nm 2) (.call "_law_worth" (.cons (.ix (.v 0) (.int 2)) (.cons (.v 1) .nil)) [] .nil)) (.cons (.ite (.cmp .eq (.ix (.v 0) (.int 1)) (.str "is")) (.cons (.ret (.tup (.cons (.blt .abs false (.cons (.ix (.v 2) (.int 0)) .nil)) (.cons (.ix (.v 2) (.int 1)) .nil)))) .nil) .nil) (.cons (.ret (.tup (.cons (.blt .max false (.cons (.ix (.v 2) (.int 0)) (.cons (.int 0) .nil))) (.cons (.ix (.lst false (.cons (.int 1) (.cons (.ix (.v 2) (.int 1)) .nil))) (.blt .int false (.cons (.cmp .gt (.ix (.v 2) (.int 0)) (.int 0)) .nil))) .nil)))) .nil))), false⟩
def c_law_let_1 : Ae := .comp false (.v 2) (.nm 2) (.ex (.ix (.v 0) (.int 1))) (.some (.and (.cons (.cmp .eq (.ix (.v 2) (.int 0)) (.int 0)) (.cons (.cmp .ne (.call "_law_broken" (.cons (.v 2) (.cons (.v 1) .nil)) [] .nil) (.tup (.cons (.int 0) (.cons (.int 1) .nil)))) .nil)))) [("vow", 2)]
def f_law_let : Fn := ⟨3, ["ledger", "table"], (.cons (.ret (.cmp .eq c_law_let_1 (.lst false .nil))) .nil), false⟩
def l_law_counts_1 : As := .for (.nm 5) (.ex (.ix (.v 0) (.int 1))) (.cons (.ite (.cmp .eq (.ix (.v 5) (.int 0)) (.v 3)) (.cons (.set (.nm 4) (.call "_law_plus" (.cons (.v 4) (.cons (.call "_law_times" (.cons (.ix (.v 5) (.int 3)) (.cons (.call "_law_broken" (.cons (.v 5) (.cons (.v 1) .nil)) [] .nil) .nil)) [] .nil) .nil)) [] .nil)) .nil) .nil) .nil)
def l_law_counts_2 : As := .for (.nm 3) (.ex (.lst false (.cons (.int 1) (.cons (.int 2) (.cons (.int 3) .nil))))) (.cons (.set (.nm 4) (.tup (.cons (.int 0) (.cons (.int 1) .nil)))) (.cons l_law_counts_1 (.cons (.ex (.met .append false (.v 2) (.cons (.v 4) .nil))) .nil)))
def c_law_counts_3 : Ae := .comp false (.tup (.cons (.blt .abs false (.cons (.ix (.ix (.v 1) (.v 6)) (.int 0)) .nil)) (.cons (.ix (.ix (.v 1) (.v 6)) (.int 1)) .nil))) (.nm 6) (.ex (.ix (.v 0) (.int 0))) .none [("label", 6)]
def f_law_counts : Fn := ⟨7, ["ledger", "table"], (.cons (.set (.nm 2) (.lst true .nil)) (.cons l_law_counts_2 (.cons (.ret (.blt .tuple false (.cons (.bin .add false (.v 2) c_law_counts_3) .nil))) .nil))), false⟩
def l_law_first_1 : As := .for (.nm 2) (.range1 (.blt .len false (.cons (.v 0) .nil))) (.cons (.ite (.cmp .ne (.ix (.v 0) (.v 2)) (.ix (.v 1) (.v 2))) (.cons (.ret (.ix (.lst false (.cons (.int 1) (.cons (.neg (.int 1)) .nil))) (.blt .int false (.cons (.call "_law_less" (.cons (.ix (.v 0) (.v 2)) (.cons (.ix (.v 1) (.v 2)) .nil)) [] .nil) .nil)))) .nil) .nil) .nil)
def f_law_first : Fn := ⟨3, ["m", "n"], (.cons l_law_first_1 (.cons (.ret (.int 0)) .nil)), false⟩
def f_law_compared : Fn := ⟨6, ["ledger", "first", "second"], (.cons (.set (.nm 3) (.lst false (.cons (.dzip (.ix (.v 0) (.int 0)) (.v 1)) (.cons (.dzip (.ix (.v 0) (.int 0)) (.v 2)) .nil)))) (.cons (.set (.nm 4) (.lst false (.cons (.call "_law_let" (.cons (.v 0) (.cons (.ix (.v 3) (.int 0)) .nil)) [] .nil) (.cons (.call "_law_let" (.cons (.v 0) (.cons (.ix (.v 3) (.int 1)) .nil)) [] .nil) .nil)))) (.cons (.ite (.cmp .ne (.ix (.v 4) (.int 0)) (.ix (.v 4) (.int 1))) (.cons (.ret (.ix (.lst false (.cons (.int 1) (.cons (.neg (.int 1)) .nil))) (.blt .int false (.cons (.ix (.v 4) (.int 0)) .nil)))) .nil) .nil) (.cons (.ite (.ix (.v 4) (.int 0)) (.cons (.set (.nm 5) (.call "_law_first" (.cons (.call "_law_counts" (.cons (.v 0) (.cons (.ix (.v 3) (.int 0)) .nil)) [] .nil) (.cons (.call "_law_counts" (.cons (.v 0) (.cons (.ix (.v 3) (.int 1)) .nil)) [] .nil) .nil)) [] .nil)) (.cons (.ite (.cmp .ne (.v 5) (.int 0)) (.cons (.ret (.v 5)) .nil) .nil) .nil)) .nil) (.cons (.ret (.call "_law_first" (.cons (.v 1) (.cons (.v 2) .nil)) [] .nil)) .nil))))), false⟩
def l_law_point_right_1 : As := .for (.nm 4) (.range1 (.blt .min false (.cons (.int 8) (.cons (.blt .len false (.cons (.ix (.v 1) (.int 1)) .nil)) .nil)))) (.cons (.set (.nm 5) (.ix (.ix (.v 1) (.int 1)) (.call "_law_take" (.cons (.v 0) (.cons (.blt .len false (.cons (.ix (.v 1) (.int 1)) .nil)) .nil)) [] .nil))) (.cons (.set (.nm 6) (.call "_law_broken" (.cons (.v 5) (.cons (.v 3) .nil)) [] .nil)) (.cons (.ite (.not (.call "_law_same" (.cons (.lst false (.cons (.call "broken_by" (.cons (.v 5) (.cons (.ix (.v 1) (.int 0)) (.cons (.v 2) .nil))) [] .nil) (.cons (.call "broken_by" .nil ["point", "names", "wish"] (.cons (.v 2) (.cons (.ix (.v 1) (.int 0)) (.cons (.v 5) .nil)))) .nil))) (.cons (.lst false (.cons (.v 6) (.cons (.v 6) .nil))) .nil)) [] .nil)) (.cons (.ret (.bl false)) .nil) .nil) .nil)))
def l_law_point_right_2 : As := .for (.nm 8) (.ex (.lst false (.cons (.int 0) (.cons (.int 1) (.cons (.int 2) (.cons (.bin .add false (.int 3) (.call "_law_take" (.cons (.v 0) (.cons (.blt .len false (.cons (.ix (.v 1) (.int 0)) .nil)) .nil)) [] .nil)) .nil)))))) (.cons (.ite (.not (.call "_law_same" (.cons (.call "counted" (.cons (.v 1) (.cons (.ix (.v 7) (.v 8)) (.cons (.v 2) .nil))) [] .nil) (.cons (.ix (.v 6) (.v 8)) .nil)) [] .nil)) (.cons (.ret (.bl false)) .nil) .nil) .nil)
def f_law_point_right : Fn := ⟨9, ["deck", "ledger", "spot"], (.cons (.set (.nm 3) (.dzip (.ix (.v 1) (.int 0)) (.v 2))) (.cons l_law_point_right_1 (.cons (.ite (.not (.call "_law_same" (.cons (.lst false (.cons (.call "is_let" (.cons (.v 1) (.cons (.v 2) .nil)) [] .nil) (.cons (.call "is_let" .nil ["point", "book"] (.cons (.v 2) (.cons (.v 1) .nil))) .nil))) (.cons (.bin .mul false (.lst false (.cons (.call "_law_let" (.cons (.v 1) (.cons (.v 3) .nil)) [] .nil) .nil)) (.int 2)) .nil)) [] .nil)) (.cons (.ret (.bl false)) .nil) .nil) (.cons (.set (.nm 6) (.call "_law_counts" (.cons (.v 1) (.cons (.v 3) .nil)) [] .nil)) (.cons (.ite (.not (.call "_law_same" (.cons (.lst false (.cons (.call "counts" (.cons (.v 1) (.cons (.v 2) .nil)) [] .nil) (.cons (.call "counts" .nil ["point", "book"] (.cons (.v 2) (.cons (.v 1) .nil))) .nil))) (.cons (.lst false (.cons (.v 6) (.cons (.v 6) .nil))) .nil)) [] .nil)) (.cons (.ret (.bl false)) .nil) .nil) (.cons (.set (.nm 7) (.bin .add false (.lst false (.cons (.int 1) (.cons (.int 2) (.cons (.int 3) .nil)))) (.blt .list false (.cons (.ix (.v 1) (.int 0)) .nil)))) (.cons l_law_point_right_2 (.cons (.ret (.call "_law_same" (.cons (.call "counted" .nil ["point", "stage", "book"] (.cons (.v 2) (.cons (.ix (.v 7) (.neg (.int 1))) (.cons (.v 1) .nil)))) (.cons (.ix (.v 6) (.neg (.int 1))) .nil)) [] .nil)) .nil)))))))), false⟩
def f_law_stages_right : Fn := ⟨3, ["ledger"], (.cons (.set (.nm 1) (.bin .add false (.lst false (.cons (.int 1) (.cons (.int 2) (.cons (.int 3) .nil)))) (.blt .list false (.cons (.ix (.v 0) (.int 0)) .nil)))) (.cons (.set (.nm 2) (.call "stages" (.cons (.v 0) .nil) [] .nil)) (.cons (.ite (.not (.call "_law_same" (.cons (.v 2) (.cons (.v 1) .nil)) [] .nil)) (.cons (.ret (.bl false)) .nil) .nil) (.cons (.ex (.met .append false (.v 2) (.cons (.str "x") .nil))) (.cons (.put (.v 2) (.int 0) (.int 7)) (.cons (.ret (.call "_law_same" (.cons (.call "stages" .nil ["book"] (.cons (.v 0) .nil)) (.cons (.v 1) .nil)) [] .nil)) .nil)))))), false⟩
def l_law_pairs_right_1 : As := .for (.nm 3) (.range2 (.v 2) (.blt .len false (.cons (.v 1) .nil))) (.cons (.set (.nm 4) (.call "_law_compared" (.cons (.v 0) (.cons (.ix (.v 1) (.v 2)) (.cons (.ix (.v 1) (.v 3)) .nil))) [] .nil)) (.cons (.ite (.or (.cons (.not (.call "_law_same" (.cons (.call "compared" (.cons (.v 0) (.cons (.ix (.v 1) (.v 2)) (.cons (.ix (.v 1) (.v 3)) .nil))) [] .nil) (.cons (.v 4) .nil)) [] .nil)) (.cons (.cmp .ne (.cmp .eq (.v 4) (.int 0)) (.cmp .eq (.ix (.v 1) (.v 2)) (.ix (.v 1) (.v 3)))) .nil))) (.cons (.ret (.bl false)) .nil) .nil) (.cons (.ite (.and (.cons (.cmp .lt (.v 2) (.v 3)) (.cons (.not (.call "_law_same" (.cons (.call "compared" .nil ["other", "one", "book"] (.cons (.ix (.v 1) (.v 2)) (.cons (.ix (.v 1) (.v 3)) (.cons (.v 0) .nil)))) (.cons (.neg (.v 4)) .nil)) [] .nil)) .nil))) (.cons (.ret (.bl false)) .nil) .nil) .nil)))
def l_law_pairs_right_2 : As := .for (.nm 2) (.range1 (.blt .len false (.cons (.v 1) .nil))) (.cons l_law_pairs_right_1 .nil)
def f_law_pairs_right : Fn := ⟨5, ["ledger", "spots"], (.cons l_law_pairs_right_2 (.cons (.ret (.bl true)) .nil)), false⟩
def f_opposite : Fn := ⟨1, ["a"], (.cons (.ret (.tup (.cons (.neg (.ix (.v 0) (.int 0))) (.cons (.ix (.v 0) (.int 1)) .nil)))) .nil), false⟩
def f_check_own : Fn := ⟨2, ["names", "name"], (.cons (.ite (.cmp .nin (.v 1) (.v 0)) (.cons (.rais "InvalidName" (.v 1) false) .nil) .nil) .nil), false⟩
def f_number_must : Fn := ⟨2, ["name", "number"], (.cons (.ret (.tup (.cons (.int 0) (.cons (.str "is") (.cons (.tup (.cons (.call "opposite" (.cons (.v 1) .nil) [] .nil) (.cons (.tup (.cons (.tup (.cons (.v 0) (.cons (.con "ONE") .nil))) .nil)) .nil))) (.cons (.con "ONE") .nil)))))) .nil), false⟩
def l_with_wish_1 : As := .for (.nm 2) (.ex (.call "foreign_names" (.cons (.v 1) (.cons (.ix (.v 0) (.int 0)) .nil)) [] .nil)) (.cons (.rais "InvalidName" (.v 2) false) .nil)
def f_with_wish : Fn := ⟨3, ["book", "wish"], (.cons (.ex (.call "check_book" (.cons (.v 0) .nil) [] .nil)) (.cons (.ex (.call "check_wish" (.cons (.v 1) .nil) [] .nil)) (.cons l_with_wish_1 (.cons (.ret (.tup (.cons (.ix (.v 0) (.int 0)) (.cons (.bin .add false (.ix (.v 0) (.int 1)) (.tup (.cons (.v 1) .nil))) .nil)))) .nil)))), false⟩
def f_without : Fn := ⟨2, ["book", "index"], (.cons (.ex (.call "check_book" (.cons (.v 0) .nil) [] .nil)) (.cons (.ite (.not (.call "is_within" (.cons (.v 1) (.cons (.int 0) (.cons (.bin .sub false (.blt .len false (.cons (.ix (.v 0) (.int 1)) .nil)) (.int 1)) .nil))) [] .nil)) (.cons (.rais "InvalidIndex" (.v 1) false) .nil) .nil) (.cons (.ret (.tup (.cons (.ix (.v 0) (.int 0)) (.cons (.bin .add false (.sl false (.ix (.v 0) (.int 1)) .none (.some (.v 1))) (.sl false (.ix (.v 0) (.int 1)) (.some (.bin .add false (.v 1) (.int 1))) .none)) .nil)))) .nil))), false⟩
def f_at_number : Fn := ⟨3, ["book", "name", "number"], (.cons (.ex (.call "check_book" (.cons (.v 0) .nil) [] .nil)) (.cons (.ex (.call "check_own" (.cons (.ix (.v 0) (.int 0)) (.cons (.v 1) .nil)) [] .nil)) (.cons (.ex (.call "check_numbers" (.cons (.tup (.cons (.v 2) .nil)) .nil) [] .nil)) (.cons (.ret (.tup (.cons (.ix (.v 0) (.int 0)) (.cons (.bin .add false (.ix (.v 0) (.int 1)) (.tup (.cons (.call "number_must" (.cons (.v 1) (.cons (.v 2) .nil)) [] .nil) .nil))) .nil)))) .nil)))), false⟩
def f_law_drawn : Fn := ⟨6, ["deck", "labels", "spot", "many"], (.cons (.set (.nm 4) (.call "_law_take" (.cons (.v 0) (.cons (.int 4) .nil)) [] .nil)) (.cons (.ite (.and (.cons (.cmp .eq (.v 4) (.int 0)) (.cons (.cmp .gt (.v 3) (.int 0)) .nil))) (.cons (.ret (.tup (.cons (.str "without") (.cons (.ix (.lst false (.cons (.int 0) (.cons (.bin .sub false (.v 3) (.int 1)) (.cons (.call "_law_take" (.cons (.v 0) (.cons (.v 3) .nil)) [] .nil) .nil)))) (.call "_law_take" (.cons (.v 0) (.cons (.int 3) .nil)) [] .nil)) (.cons .non .nil))))) .nil) .nil) (.cons (.ite (.or (.cons (.cmp .eq (.v 4) (.int 1)) (.cons (.cmp .eq (.v 4) (.int 0)) .nil))) (.cons (.set (.nm 5) (.call "_law_take" (.cons (.v 0) (.cons (.blt .len false (.cons (.v 1) .nil)) .nil)) [] .nil)) (.cons (.ret (.tup (.cons (.str "at") (.cons (.ix (.v 1) (.v 5)) (.cons (.ix (.lst false (.cons (.ix (.v 2) (.v 5)) (.cons (.call "_law_number" (.cons (.v 0) .nil) [] .nil) .nil))) (.call "_law_take" (.cons (.v 0) (.cons (.int 2) .nil)) [] .nil)) .nil))))) .nil)) .nil) (.cons (.ret (.tup (.cons (.str "with") (.cons (.call "_law_vow" (.cons (.v 0) (.cons (.v 1) (.cons (.call "_law_take" (.cons (.v 0) (.cons (.int 4) .nil)) [] .nil) .nil))) [] .nil) (.cons .non .nil))))) .nil)))), false⟩
def f_law_edited : Fn := ⟨5, ["ledger", "edit"], (.cons (.set (.tp (.cons (.nm 2) (.cons (.nm 3) .nil))) (.tup (.cons (.ix (.v 0) (.int 0)) (.cons (.blt .list true (.cons (.ix (.v 0) (.int 1)) .nil)) .nil)))) (.cons (.ite (.cmp .eq (.ix (.v 1) (.int 0)) (.str "without")) (.cons (.ex (.met .pop false (.v 3) (.cons (.ix (.v 1) (.int 1)) .nil))) .nil) (.cons (.ite (.cmp .eq (.ix (.v 1) (.int 0)) (.str "with")) (.cons (.ex (.met .append false (.v 3) (.cons (.ix (.v 1) (.int 1)) .nil))) .nil) (.cons (.set (.nm 4) (.tup (.cons (.neg (.ix (.ix (.v 1) (.int 2)) (.int 0))) (.cons (.ix (.ix (.v 1) (.int 2)) (.int 1)) .nil)))) (.cons (.ex (.met .append false (.v 3) (.cons (.tup (.cons (.int 0) (.cons (.str "is") (.cons (.tup (.cons (.v 4) (.cons (.tup (.cons (.tup (.cons (.ix (.v 1) (.int 1)) (.cons (.tup (.cons (.int 1) (.cons (.int 1) .nil))) .nil))) .nil)) .nil))) (.cons (.tup (.cons (.int 1) (.cons (.int 1) .nil))) .nil))))) .nil))) .nil))) .nil)) (.cons (.ret (.tup (.cons (.v 2) (.cons (.blt .tuple false (.cons (.v 3) .nil)) .nil)))) .nil))), false⟩
def f_law_told : Fn := ⟨3, ["ledger", "edit", "named"], (.cons (.ite (.cmp .eq (.ix (.v 1) (.int 0)) (.str "without")) (.cons (.ret (.ifx (.v 2) (.call "without" .nil ["index", "book"] (.cons (.ix (.v 1) (.int 1)) (.cons (.v 0) .nil))) (.call "without" (.cons (.v 0) (.cons (.ix (.v 1) (.int 1)) .nil)) [] .nil))) .nil) .nil) (.cons (.ite (.cmp .eq (.ix (.v 1) (.int 0)) (.str "with")) (.cons (.ret (.ifx (.v 2) (.call "with_wish" .nil ["wish", "book"] (.cons (.ix (.v 1) (.int 1)) (.cons (.v 0) .nil))) (.call "with_wish" (.cons (.v 0) (.cons (.ix (.v 1) (.int 1)) .nil)) [] .nil))) .nil) .nil) (.cons (.ite (.v 2) (.cons (.ret (.call "at_number" .nil ["number", "name", "book"] (.cons (.ix (.v 1) (.int 2)) (.cons (.ix (.v 1) (.int 1)) (.cons (.v 0) .nil))))) .nil) .nil) (.cons (.ret (.call "at_number" (.cons (.v 0) (.cons (.ix (.v 1) (.int 1)) (.cons (.ix (.v 1) (.int 2)) .nil))) [] .nil)) .nil)))), false⟩
def f_law_let_right : Fn := ⟨6, ["ledger", "edit", "found", "spot"], (.cons (.ite (.cmp .ne (.ix (.v 1) (.int 0)) (.str "at")) (.cons (.ret (.bl true)) .nil) .nil) (.cons (.set (.nm 4) (.ix (.v 3) (.met .index false (.ix (.v 0) (.int 0)) (.cons (.ix (.v 1) (.int 1)) .nil)))) (.cons (.set (.nm 5) (.and (.cons (.cmp .isB (.call "is_let" (.cons (.v 0) (.cons (.v 3) .nil)) [] .nil) (.bl true)) (.cons (.cmp .eq (.v 4) (.ix (.v 1) (.int 2))) .nil)))) (.cons (.ret (.call "_law_same" (.cons (.call "is_let" (.cons (.v 2) (.cons (.v 3) .nil)) [] .nil) (.cons (.v 5) .nil)) [] .nil)) .nil)))), false⟩
def l_law_1_v4 : As := .for (.nm 7) (.range1 (.bin .add false (.int 3) (.call "_law_take" (.cons (.v 2) (.cons (.int 7) .nil)) [] .nil))) (.cons (.set (.nm 8) (.call "_law_drawn" (.cons (.v 2) (.cons (.v 3) (.cons (.ix (.v 4) (.int 0)) (.cons (.blt .len false (.cons (.ix (.v 5) (.int 1)) .nil)) .nil)))) [] .nil)) (.cons (.set (.nm 9) (.call "_law_edited" (.cons (.v 5) (.cons (.v 8) .nil)) [] .nil)) (.cons (.set (.nm 10) (.call "_law_told" (.cons (.v 5) (.cons (.v 8) (.cons (.cmp .eq (.call "_law_take" (.cons (.v 2) (.cons (.int 2) .nil)) [] .nil) (.int 1)) .nil))) [] .nil)) (.cons (.ite (.or (.cons (.not (.call "_law_same" (.cons (.v 10) (.cons (.v 9) .nil)) [] .nil)) (.cons (.not (.call "_law_same" (.cons (.call "is_book" (.cons (.v 10) .nil) [] .nil) (.cons (.bl true) .nil)) [] .nil)) .nil))) (.cons (.ret (.bl false)) .nil) .nil) (.cons (.ite (.not (.call "_law_let_right" (.cons (.v 5) (.cons (.v 8) (.cons (.v 10) (.cons (.ix (.v 4) (.int 0)) .nil)))) [] .nil)) (.cons (.ret (.bl false)) .nil) .nil) (.cons (.ex (.met .append false (.v 6) (.cons (.tup (.cons (.v 5) (.cons (.v 8) (.cons (.v 9) .nil)))) .nil))) (.cons (.set (.nm 5) (.v 10)) .nil)))))))
def l_law_2_v4 : As := .for (.tp (.cons (.nm 11) (.cons (.nm 8) (.cons (.nm 9) .nil)))) (.ex (.v 6)) (.cons (.ite (.not (.call "_law_same" (.cons (.call "_law_told" (.cons (.v 11) (.cons (.v 8) (.cons (.bl false) .nil))) [] .nil) (.cons (.v 9) .nil)) [] .nil)) (.cons (.ret (.bl false)) .nil) .nil) .nil)
def l_law_3_v4 : As := .for (.nm 1) (.range1 (.blt .max false (.cons (.int 2) (.cons (.blt .min false (.cons (.blt .len false (.cons (.v 0) .nil)) (.cons (.int 8) .nil))) .nil)))) (.cons (.set (.nm 2) (.call "_law_deck" (.cons (.v 0) (.cons (.v 1) .nil)) [] .nil)) (.cons (.set (.nm 3) (.call "_law_labels" (.cons (.v 2) (.cons (.ix (.lst false (.cons (.int 2) (.cons (.int 4) (.cons (.int 12) .nil)))) (.call "_law_take" (.cons (.v 2) (.cons (.int 3) .nil)) [] .nil)) .nil)) [] .nil)) (.cons (.set (.nm 4) (.call "_law_spots" (.cons (.v 2) (.cons (.v 3) (.cons (.int 2) .nil))) [] .nil)) (.cons (.set (.nm 5) (.call "_law_kind_ledger" (.cons (.v 2) (.cons (.v 3) (.cons (.v 4) (.cons (.int 27) .nil)))) [] .nil)) (.cons (.set (.nm 6) (.lst true .nil)) (.cons l_law_1_v4 (.cons l_law_2_v4 .nil)))))))
def f_law_v4 : Fn := ⟨12, ["script"], (.cons l_law_3_v4 (.cons (.ret (.bl true)) .nil)), false⟩
def f_difference : Fn := ⟨2, ["a", "b"], (.cons (.ret (.call "sum_of_two" (.cons (.v 0) (.cons (.call "opposite" (.cons (.v 1) .nil) [] .nil) .nil)) [] .nil)) .nil), false⟩
def f_quotient : Fn := ⟨2, ["a", "b"], (.cons (.ret (.call "lowest" (.cons (.bin .mul false (.ix (.v 0) (.int 0)) (.ix (.v 1) (.int 1))) (.cons (.bin .mul false (.ix (.v 0) (.int 1)) (.ix (.v 1) (.int 0))) .nil)) [] .nil)) .nil), false⟩
def f_plus : Fn := ⟨2, ["a", "b"], (.cons (.ex (.call "check_numbers" (.cons (.tup (.cons (.v 0) (.cons (.v 1) .nil))) .nil) [] .nil)) (.cons (.ret (.call "sum_of_two" (.cons (.v 0) (.cons (.v 1) .nil)) [] .nil)) .nil)), false⟩
def f_minus : Fn := ⟨2, ["a", "b"], (.cons (.ex (.call "check_numbers" (.cons (.tup (.cons (.v 0) (.cons (.v 1) .nil))) .nil) [] .nil)) (.cons (.ret (.call "difference" (.cons (.v 0) (.cons (.v 1) .nil)) [] .nil)) .nil)), false⟩
def f_times : Fn := ⟨2, ["a", "b"], (.cons (.ex (.call "check_numbers" (.cons (.tup (.cons (.v 0) (.cons (.v 1) .nil))) .nil) [] .nil)) (.cons (.ret (.call "product" (.cons (.v 0) (.cons (.v 1) .nil)) [] .nil)) .nil)), false⟩
def f_by : Fn := ⟨2, ["a", "b"], (.cons (.ex (.call "check_numbers" (.cons (.tup (.cons (.v 0) (.cons (.v 1) .nil))) .nil) [] .nil)) (.cons (.ite (.cmp .eq (.v 1) (.con "ZERO")) (.cons (.rais "DividedByZero" (.v 0) false) .nil) .nil) (.cons (.ret (.call "quotient" (.cons (.v 0) (.cons (.v 1) .nil)) [] .nil)) .nil))), false⟩
def f_size : Fn := ⟨1, ["a"], (.cons (.ex (.call "check_numbers" (.cons (.tup (.cons (.v 0) .nil)) .nil) [] .nil)) (.cons (.ret (.call "size_of" (.cons (.v 0) .nil) [] .nil)) .nil)), false⟩
def f_sign : Fn := ⟨1, ["a"], (.cons (.ex (.call "check_numbers" (.cons (.tup (.cons (.v 0) .nil)) .nil) [] .nil)) (.cons (.ite (.cmp .eq (.ix (.v 0) (.int 0)) (.int 0)) (.cons (.ret (.int 0)) .nil) .nil) (.cons (.ret (.ifx (.cmp .gt (.ix (.v 0) (.int 0)) (.int 0)) (.int 1) (.neg (.int 1)))) .nil))), false⟩
def f_below : Fn := ⟨2, ["a", "b"], (.cons (.ex (.call "check_numbers" (.cons (.tup (.cons (.v 0) (.cons (.v 1) .nil))) .nil) [] .nil)) (.cons (.ret (.call "is_less" (.cons (.v 0) (.cons (.v 1) .nil)) [] .nil)) .nil)), false⟩
def f_rounded : Fn := ⟨1, ["a"], (.cons (.ex (.call "check_numbers" (.cons (.tup (.cons (.v 0) .nil)) .nil) [] .nil)) (.cons (.ret (.bin .fdiv false (.bin .add false (.bin .mul false (.int 2) (.ix (.v 0) (.int 0))) (.ix (.v 0) (.int 1))) (.bin .mul false (.int 2) (.ix (.v 0) (.int 1))))) .nil)), false⟩
def f_all_stages_v2 : Fn := ⟨1, ["book"], (.cons (.ret (.lstS false (.star (.con "RANKS") (.star (.ix (.v 0) (.int 0)) .nil)))) .nil), false⟩
def f_stages_v2 : Fn := ⟨1, ["book"], (.cons (.ex (.call "check_book" (.cons (.v 0) .nil) [] .nil)) (.cons (.ret (.call "all_stages" (.cons (.v 0) .nil) [] .nil)) .nil)), false⟩
def f_law_call : Fn := ⟨2, ["word", "g"], (.cons (.ite (.cmp .eq (.v 0) (.str "plus")) (.cons (.ret (.call "plus" (.cons (.ix (.v 1) (.str "m")) (.cons (.ix (.v 1) (.str "n")) .nil)) [] .nil)) .nil) .nil) (.cons (.ite (.cmp .eq (.v 0) (.str "minus")) (.cons (.ret (.call "minus" (.cons (.ix (.v 1) (.str "m")) (.cons (.ix (.v 1) (.str "n")) .nil)) [] .nil)) .nil) .nil) (.cons (.ite (.cmp .eq (.v 0) (.str "times")) (.cons (.ret (.call "times" (.cons (.ix (.v 1) (.str "m")) (.cons (.ix (.v 1) (.str "n")) .nil)) [] .nil)) .nil) .nil) (.cons (.ite (.cmp .eq (.v 0) (.str "by")) (.cons (.ret (.call "by" (.cons (.ix (.v 1) (.str "m")) (.cons (.ix (.v 1) (.str "n")) .nil)) [] .nil)) .nil) .nil) (.cons (.ite (.cmp .eq (.v 0) (.str "below")) (.cons (.ret (.call "below" (.cons (.ix (.v 1) (.str "m")) (.cons (.ix (.v 1) (.str "n")) .nil)) [] .nil)) .nil) .nil) (.cons (.ite (.cmp .eq (.v 0) (.str "size")) (.cons (.ret (.call "size" (.cons (.ix (.v 1) (.str "m")) .nil) [] .nil)) .nil) .nil) (.cons (.ite (.cmp .eq (.v 0) (.str "sign")) (.cons (.ret (.call "sign" (.cons (.ix (.v 1) (.str "m")) .nil) [] .nil)) .nil) .nil) (.cons (.ite (.cmp .eq (.v 0) (.str "rounded")) (.cons (.ret (.call "rounded" (.cons (.ix (.v 1) (.str "m")) .nil) [] .nil)) .nil) .nil) (.cons (.ite (.cmp .eq (.v 0) (.str "form")) (.cons (.ret (.call "form" (.cons (.ix (.v 1) (.str "m")) (.cons (.ix (.v 1) (.str "rows")) .nil)) [] .nil)) .nil) .nil) (.cons (.ite (.cmp .eq (.v 0) (.str "added")) (.cons (.ret (.call "added" (.cons (.ix (.v 1) (.str "shape")) (.cons (.ix (.v 1) (.str "second")) .nil)) [] .nil)) .nil) .nil) (.cons (.ite (.cmp .eq (.v 0) (.str "scaled")) (.cons (.ret (.call "scaled" (.cons (.ix (.v 1) (.str "shape")) (.cons (.ix (.v 1) (.str "m")) .nil)) [] .nil)) .nil) .nil) (.cons (.ite (.cmp .eq (.v 0) (.str "worth")) (.cons (.ret (.call "worth" (.cons (.ix (.v 1) (.str "shape")) (.cons (.ix (.v 1) (.str "labels")) (.cons (.ix (.v 1) (.str "spot")) .nil))) [] .nil)) .nil) .nil) (.cons (.ite (.cmp .eq (.v 0) (.str "put_in")) (.cons (.ret (.call "put_in" (.cons (.ix (.v 1) (.str "shape")) (.cons (.ix (.v 1) (.str "label")) (.cons (.ix (.v 1) (.str "second")) .nil))) [] .nil)) .nil) .nil) (.cons (.ite (.cmp .eq (.v 0) (.str "names_of")) (.cons (.ret (.call "names_of" (.cons (.ix (.v 1) (.str "shape")) .nil) [] .nil)) .nil) .nil) (.cons (.ret (.call "_law_call_books" (.cons (.v 0) (.cons (.v 1) .nil)) [] .nil)) .nil))))))))))))))), false⟩
def f_law_call_books : Fn := ⟨2, ["word", "g"], (.cons (.ite (.cmp .eq (.v 0) (.str "broken_by")) (.cons (.ret (.call "broken_by" (.cons (.ix (.v 1) (.str "vow")) (.cons (.ix (.v 1) (.str "labels")) (.cons (.ix (.v 1) (.str "spot")) .nil))) [] .nil)) .nil) .nil) (.cons (.ite (.cmp .eq (.v 0) (.str "is_let")) (.cons (.ret (.call "is_let" (.cons (.ix (.v 1) (.str "ledger")) (.cons (.ix (.v 1) (.str "spot")) .nil)) [] .nil)) .nil) .nil) (.cons (.ite (.cmp .eq (.v 0) (.str "stages")) (.cons (.ret (.call "stages" (.cons (.ix (.v 1) (.str "ledger")) .nil) [] .nil)) .nil) .nil) (.cons (.ite (.cmp .eq (.v 0) (.str "counted")) (.cons (.ret (.call "counted" (.cons (.ix (.v 1) (.str "ledger")) (.cons (.ix (.v 1) (.str "tier")) (.cons (.ix (.v 1) (.str "spot")) .nil))) [] .nil)) .nil) .nil) (.cons (.ite (.cmp .eq (.v 0) (.str "counts")) (.cons (.ret (.call "counts" (.cons (.ix (.v 1) (.str "ledger")) (.cons (.ix (.v 1) (.str "spot")) .nil)) [] .nil)) .nil) .nil) (.cons (.ite (.cmp .eq (.v 0) (.str "compared")) (.cons (.ret (.call "compared" (.cons (.ix (.v 1) (.str "ledger")) (.cons (.ix (.v 1) (.str "spot")) (.cons (.ix (.v 1) (.str "goal")) .nil))) [] .nil)) .nil) .nil) (.cons (.ite (.cmp .eq (.v 0) (.str "with_wish")) (.cons (.ret (.call "with_wish" (.cons (.ix (.v 1) (.str "ledger")) (.cons (.ix (.v 1) (.str "vow")) .nil)) [] .nil)) .nil) .nil) (.cons (.ite (.cmp .eq (.v 0) (.str "without")) (.cons (.ret (.call "without" (.cons (.ix (.v 1) (.str "ledger")) (.cons (.ix (.v 1) (.str "at")) .nil)) [] .nil)) .nil) .nil) (.cons (.ret (.call "at_number" (.cons (.ix (.v 1) (.str "ledger")) (.cons (.ix (.v 1) (.str "label")) (.cons (.ix (.v 1) (.str "m")) .nil))) [] .nil)) .nil))))))))), false⟩
def f_law_named : Fn := ⟨2, ["word", "g"], (.cons (.ite (.cmp .eq (.v 0) (.str "plus")) (.cons (.ret (.call "plus" .nil ["b", "a"] (.cons (.ix (.v 1) (.str "n")) (.cons (.ix (.v 1) (.str "m")) .nil)))) .nil) .nil) (.cons (.ite (.cmp .eq (.v 0) (.str "minus")) (.cons (.ret (.call "minus" .nil ["b", "a"] (.cons (.ix (.v 1) (.str "n")) (.cons (.ix (.v 1) (.str "m")) .nil)))) .nil) .nil) (.cons (.ite (.cmp .eq (.v 0) (.str "times")) (.cons (.ret (.call "times" .nil ["b", "a"] (.cons (.ix (.v 1) (.str "n")) (.cons (.ix (.v 1) (.str "m")) .nil)))) .nil) .nil) (.cons (.ite (.cmp .eq (.v 0) (.str "by")) (.cons (.ret (.call "by" .nil ["b", "a"] (.cons (.ix (.v 1) (.str "n")) (.cons (.ix (.v 1) (.str "m")) .nil)))) .nil) .nil) (.cons (.ite (.cmp .eq (.v 0) (.str "below")) (.cons (.ret (.call "below" .nil ["b", "a"] (.cons (.ix (.v 1) (.str "n")) (.cons (.ix (.v 1) (.str "m")) .nil)))) .nil) .nil) (.cons (.ite (.cmp .eq (.v 0) (.str "size")) (.cons (.ret (.call "size" .nil ["a"] (.cons (.ix (.v 1) (.str "m")) .nil))) .nil) .nil) (.cons (.ite (.cmp .eq (.v 0) (.str "sign")) (.cons (.ret (.call "sign" .nil ["a"] (.cons (.ix (.v 1) (.str "m")) .nil))) .nil) .nil) (.cons (.ite (.cmp .eq (.v 0) (.str "rounded")) (.cons (.ret (.call "rounded" .nil ["a"] (.cons (.ix (.v 1) (.str "m")) .nil))) .nil) .nil) (.cons (.ite (.cmp .eq (.v 0) (.str "form")) (.cons (.ret (.call "form" .nil ["terms", "constant"] (.cons (.ix (.v 1) (.str "rows")) (.cons (.ix (.v 1) (.str "m")) .nil)))) .nil) .nil) (.cons (.ite (.cmp .eq (.v 0) (.str "added")) (.cons (.ret (.call "added" .nil ["other", "one"] (.cons (.ix (.v 1) (.str "second")) (.cons (.ix (.v 1) (.str "shape")) .nil)))) .nil) .nil) (.cons (.ite (.cmp .eq (.v 0) (.str "scaled")) (.cons (.ret (.call "scaled" .nil ["number", "form"] (.cons (.ix (.v 1) (.str "m")) (.cons (.ix (.v 1) (.str "shape")) .nil)))) .nil) .nil) (.cons (.ite (.cmp .eq (.v 0) (.str "worth")) (.cons (.ret (.call "worth" .nil ["point", "names", "form"] (.cons (.ix (.v 1) (.str "spot")) (.cons (.ix (.v 1) (.str "labels")) (.cons (.ix (.v 1) (.str "shape")) .nil))))) .nil) .nil) (.cons (.ite (.cmp .eq (.v 0) (.str "put_in")) (.cons (.ret (.call "put_in" .nil ["other", "name", "form"] (.cons (.ix (.v 1) (.str "second")) (.cons (.ix (.v 1) (.str "label")) (.cons (.ix (.v 1) (.str "shape")) .nil))))) .nil) .nil) (.cons (.ite (.cmp .eq (.v 0) (.str "names_of")) (.cons (.ret (.call "names_of" .nil ["form"] (.cons (.ix (.v 1) (.str "shape")) .nil))) .nil) .nil) (.cons (.ret (.call "_law_named_books" (.cons (.v 0) (.cons (.v 1) .nil)) [] .nil)) .nil))))))))))))))), false⟩
def f_law_named_books : Fn := ⟨2, ["word", "g"], (.cons (.ite (.cmp .eq (.v 0) (.str "broken_by")) (.cons (.ret (.call "broken_by" .nil ["point", "names", "wish"] (.cons (.ix (.v 1) (.str "spot")) (.cons (.ix (.v 1) (.str "labels")) (.cons (.ix (.v 1) (.str "vow")) .nil))))) .nil) .nil) (.cons (.ite (.cmp .eq (.v 0) (.str "is_let")) (.cons (.ret (.call "is_let" .nil ["point", "book"] (.cons (.ix (.v 1) (.str "spot")) (.cons (.ix (.v 1) (.str "ledger")) .nil)))) .nil) .nil) (.cons (.ite (.cmp .eq (.v 0) (.str "stages")) (.cons (.ret (.call "stages" .nil ["book"] (.cons (.ix (.v 1) (.str "ledger")) .nil))) .nil) .nil) (.cons (.ite (.cmp .eq (.v 0) (.str "counted")) (.cons (.ret (.call "counted" .nil ["point", "stage", "book"] (.cons (.ix (.v 1) (.str "spot")) (.cons (.ix (.v 1) (.str "tier")) (.cons (.ix (.v 1) (.str "ledger")) .nil))))) .nil) .nil) (.cons (.ite (.cmp .eq (.v 0) (.str "counts")) (.cons (.ret (.call "counts" .nil ["point", "book"] (.cons (.ix (.v 1) (.str "spot")) (.cons (.ix (.v 1) (.str "ledger")) .nil)))) .nil) .nil) (.cons (.ite (.cmp .eq (.v 0) (.str "compared")) (.cons (.ret (.call "compared" .nil ["other", "one", "book"] (.cons (.ix (.v 1) (.str "goal")) (.cons (.ix (.v 1) (.str "spot")) (.cons (.ix (.v 1) (.str "ledger")) .nil))))) .nil) .nil) (.cons (.ite (.cmp .eq (.v 0) (.str "with_wish")) (.cons (.ret (.call "with_wish" .nil ["wish", "book"] (.cons (.ix (.v 1) (.str "vow")) (.cons (.ix (.v 1) (.str "ledger")) .nil)))) .nil) .nil) (.cons (.ite (.cmp .eq (.v 0) (.str "without")) (.cons (.ret (.call "without" .nil ["index", "book"] (.cons (.ix (.v 1) (.str "at")) (.cons (.ix (.v 1) (.str "ledger")) .nil)))) .nil) .nil) (.cons (.ret (.call "at_number" .nil ["number", "name", "book"] (.cons (.ix (.v 1) (.str "m")) (.cons (.ix (.v 1) (.str "label")) (.cons (.ix (.v 1) (.str "ledger")) .nil))))) .nil))))))))), false⟩
def f_law_answer : Fn := ⟨5, ["word", "g", "named"], (.cons (.set (.nm 3) (.lst false (.cons (.str "") (.cons .non .nil)))) (.cons (.try (.cons (.ite (.v 2) (.cons (.ex (.call "_law_named" (.cons (.v 0) (.cons (.v 1) .nil)) [] .nil)) .nil) (.cons (.ex (.call "_law_call" (.cons (.v 0) (.cons (.v 1) .nil)) [] .nil)) .nil)) .nil) (.cons "InvalidNumber" (some 4) (.cons (.set (.nm 3) (.lst false (.cons (.str "InvalidNumber") (.cons (.val 4) .nil)))) .nil) (.cons "InvalidName" (some 4) (.cons (.set (.nm 3) (.lst false (.cons (.str "InvalidName") (.cons (.val 4) .nil)))) .nil) (.cons "InvalidForm" (some 4) (.cons (.set (.nm 3) (.lst false (.cons (.str "InvalidForm") (.cons (.val 4) .nil)))) .nil) (.cons "InvalidWish" (some 4) (.cons (.set (.nm 3) (.lst false (.cons (.str "InvalidWish") (.cons (.val 4) .nil)))) .nil) (.cons "InvalidBook" (some 4) (.cons (.set (.nm 3) (.lst false (.cons (.str "InvalidBook") (.cons (.val 4) .nil)))) .nil) (.cons "InvalidPoint" (some 4) (.cons (.set (.nm 3) (.lst false (.cons (.str "InvalidPoint") (.cons (.val 4) .nil)))) .nil) (.cons "InvalidStage" (some 4) (.cons (.set (.nm 3) (.lst false (.cons (.str "InvalidStage") (.cons (.val 4) .nil)))) .nil) (.cons "InvalidIndex" (some 4) (.cons (.set (.nm 3) (.lst false (.cons (.str "InvalidIndex") (.cons (.val 4) .nil)))) .nil) (.cons "DividedByZero" (some 4) (.cons (.set (.nm 3) (.lst false (.cons (.str "DividedByZero") (.cons (.val 4) .nil)))) .nil) (.cons "WishError" (some 4) (.cons (.set (.nm 3) (.lst false (.cons (.str "WishError") (.cons (.val 4) .nil)))) .nil) .nil))))))))))) (.cons (.ret (.v 3)) .nil))), false⟩
def f_law_bad_number : Fn := ⟨2, ["deck"], (.cons (.set (.nm 1) (.bin .add false (.int 2) (.call "_law_take" (.cons (.v 0) (.cons (.int 99) .nil)) [] .nil))) (.cons (.ret (.ix (.lst false (.cons (.tup (.cons (.v 1) (.cons (.v 1) .nil))) (.cons (.tup (.cons (.int 0) (.cons (.v 1) .nil))) (.cons (.tup (.cons (.int 1) (.cons (.int 0) .nil))) (.cons (.tup (.cons (.int 0) (.cons (.int 0) .nil))) (.cons (.tup (.cons (.int 3) (.cons (.neg (.int 1)) .nil))) (.cons (.tup (.cons (.int 0) (.cons (.neg (.int 1)) .nil))) (.cons (.tup (.cons (.bin .mul false (.int 2) (.v 1)) (.cons (.int 4) .nil))) (.cons (.tup (.cons (.neg (.v 1)) (.cons (.neg (.int 1)) .nil))) .nil))))))))) (.call "_law_take" (.cons (.v 0) (.cons (.int 8) .nil)) [] .nil))) .nil)), false⟩
def f_law_bad_label : Fn := ⟨1, ["deck"], (.cons (.ret (.ix (.lst false (.cons (.str "") (.cons (.str "A") (.cons (.str "abcdefghi") (.cons (.str "a b") (.cons (.str "z1") (.cons (.str "a_") (.cons (.str "{") (.cons (.bin .mul false (.str "a") (.int 40)) .nil))))))))) (.call "_law_take" (.cons (.v 0) (.cons (.int 8) .nil)) [] .nil))) .nil), false⟩
def c_law_strange_1 : Ae := .comp false (.sl false (.v 2) .none (.some (.neg (.int 1)))) (.nm 2) (.ex (.v 0)) .none [("label", 2)]
def c_law_strange_2 : Ae := .comp false (.sl false (.v 2) (.some (.int 1)) .none) (.nm 2) (.ex (.v 0)) .none [("label", 2)]
def c_law_strange_3 : Ae := .comp false (.sl false (.bin .add false (.v 2) (.str "b")) .none (.some (.int 8))) (.nm 2) (.ex (.v 0)) .none [("label", 2)]
def c_law_strange_4 : Ae := .comp false (.v 2) (.nm 2) (.ex (.v 1)) (.some (.and (.cons (.cmp .nin (.v 2) (.v 0)) (.cons (.cmp .ne (.v 2) (.str "")) .nil)))) [("label", 2)]
def f_law_strange : Fn := ⟨3, ["labels"], (.cons (.set (.nm 1) (.lst false (.cons (.str "aaaaaaaa") (.cons (.str "gqgqgqgq") (.cons (.str "zyzyzyzy") (.cons (.str "m") (.cons (.str "x") (.cons (.str "bb") (.cons (.str "q") (.cons (.str "c") (.cons (.str "d") (.cons (.str "e") (.cons (.str "f") (.cons (.str "g") (.cons (.str "h") (.cons (.str "i") (.cons (.str "j") .nil))))))))))))))))) (.cons (.set (.nm 1) (.bin .add false (.bin .add false (.bin .add false (.v 1) c_law_strange_1) c_law_strange_2) c_law_strange_3)) (.cons (.ret c_law_strange_4) .nil))), false⟩
def l_law_foreign_1 : As := .for (.nm 4) (.ex (.v 1)) (.cons (.ite (.cmp .eq (.call "_law_take" (.cons (.v 0) (.cons (.int 2) .nil)) [] .nil) (.int 1)) (.cons (.put (.v 3) (.v 4) (.tup (.cons (.bin .add false (.int 1) (.call "_law_take" (.cons (.v 0) (.cons (.int 3) .nil)) [] .nil)) (.cons (.int 1) .nil)))) .nil) .nil) .nil)
def c_law_foreign_2 : Ae := .comp false (.ix (.v 2) (.call "_law_take" (.cons (.v 0) (.cons (.blt .len false (.cons (.v 2) .nil)) .nil)) [] .nil)) (.nm 6) (.range1 (.bin .add false (.int 1) (.call "_law_take" (.cons (.v 0) (.cons (.int 2) .nil)) [] .nil))) .none [("k", 6)]
def l_law_foreign_3 : As := .for (.nm 4) (.ex (.v 5)) (.cons (.put (.v 3) (.v 4) (.tup (.cons (.neg (.int 1)) (.cons (.int 2) .nil)))) .nil)
def f_law_foreign : Fn := ⟨7, ["deck", "labels"], (.cons (.set (.tp (.cons (.nm 2) (.cons (.nm 3) .nil))) (.tup (.cons (.call "_law_strange" (.cons (.v 1) .nil) [] .nil) (.cons (.dnew .nil) .nil)))) (.cons l_law_foreign_1 (.cons (.set (.nm 5) c_law_foreign_2) (.cons l_law_foreign_3 (.cons (.ret (.tup (.cons (.call "_law_lain" (.cons (.call "_law_number" (.cons (.v 0) .nil) [] .nil) (.cons (.v 3) .nil)) [] .nil) (.cons (.blt .min1 false (.cons (.v 5) .nil)) .nil)))) .nil))))), false⟩
def c_law_is_label_1_v2 : Ae := .comp false (.v 1) (.nm 1) (.ex (.v 0)) (.some (.cmp .nin (.v 1) (.str "abcdefghijklmnopqrstuvwxyz"))) [("mark", 1)]
def f_law_is_label_v2 : Fn := ⟨2, ["text"], (.cons (.ret (.and (.cons (.chain .le .le (.int 1) (.blt .len false (.cons (.v 0) .nil)) (.int 8)) (.cons (.cmp .eq c_law_is_label_1_v2 (.lst false .nil)) .nil)))) .nil), false⟩
def f_law_bad_shape : Fn := ⟨8, ["deck", "shape"], (.cons (.set (.tp (.cons (.nm 2) (.cons (.nm 3) .nil))) (.v 1)) (.cons (.ite (.cmp .eq (.v 3) (.tup .nil)) (.cons (.set (.nm 3) (.tup (.cons (.tup (.cons (.str "b") (.cons (.tup (.cons (.int 1) (.cons (.int 1) .nil))) .nil))) (.cons (.tup (.cons (.str "c") (.cons (.tup (.cons (.neg (.int 2)) (.cons (.int 3) .nil))) .nil))) .nil)))) .nil) .nil) (.cons (.set (.tp (.cons (.nm 4) (.cons (.nm 5) .nil))) (.tup (.cons (.call "_law_take" (.cons (.v 0) (.cons (.int 6) .nil)) [] .nil) (.cons (.call "_law_take" (.cons (.v 0) (.cons (.blt .len false (.cons (.v 3) .nil)) .nil)) [] .nil) .nil)))) (.cons (.set (.tp (.cons (.nm 6) (.cons (.nm 7) .nil))) (.ix (.v 3) (.v 5))) (.cons (.ite (.cmp .eq (.v 4) (.int 0)) (.cons (.ret (.tup (.cons (.call "_law_bad_number" (.cons (.v 0) .nil) [] .nil) (.cons (.v 3) .nil)))) .nil) .nil) (.cons (.ite (.cmp .eq (.v 4) (.int 1)) (.cons (.ret (.tup (.cons (.v 2) (.cons (.bin .add false (.bin .add false (.sl false (.v 3) .none (.some (.v 5))) (.tup (.cons (.tup (.cons (.call "_law_bad_label" (.cons (.v 0) .nil) [] .nil) (.cons (.v 7) .nil))) .nil))) (.sl false (.v 3) (.some (.bin .add false (.v 5) (.int 1))) .none)) .nil)))) .nil) .nil) (.cons (.ite (.cmp .eq (.v 4) (.int 2)) (.cons (.ret (.tup (.cons (.v 2) (.cons (.bin .add false (.bin .add false (.sl false (.v 3) .none (.some (.v 5))) (.tup (.cons (.tup (.cons (.v 6) (.cons (.tup (.cons (.int 0) (.cons (.int 1) .nil))) .nil))) .nil))) (.sl false (.v 3) (.some (.bin .add false (.v 5) (.int 1))) .none)) .nil)))) .nil) .nil) (.cons (.ite (.or (.cons (.cmp .eq (.v 4) (.int 3)) (.cons (.cmp .eq (.blt .len false (.cons (.v 3) .nil)) (.int 1)) .nil))) (.cons (.ret (.tup (.cons (.v 2) (.cons (.bin .add false (.bin .add false (.sl false (.v 3) .none (.some (.bin .add false (.v 5) (.int 1)))) (.tup (.cons (.tup (.cons (.v 6) (.cons (.tup (.cons (.int 2) (.cons (.int 1) .nil))) .nil))) .nil))) (.sl false (.v 3) (.some (.bin .add false (.v 5) (.int 1))) .none)) .nil)))) .nil) .nil) (.cons (.ite (.and (.cons (.cmp .eq (.v 4) (.int 4)) (.cons (.cmp .gt (.v 5) (.int 0)) .nil))) (.cons (.ret (.tup (.cons (.v 2) (.cons (.bin .add false (.bin .add false (.sl false (.v 3) .none (.some (.bin .sub false (.v 5) (.int 1)))) (.tup (.cons (.ix (.v 3) (.v 5)) (.cons (.ix (.v 3) (.bin .sub false (.v 5) (.int 1))) .nil)))) (.sl false (.v 3) (.some (.bin .add false (.v 5) (.int 1))) .none)) .nil)))) .nil) .nil) (.cons (.ret (.tup (.cons (.v 2) (.cons (.bin .add false (.bin .add false (.sl false (.v 3) .none (.some (.v 5))) (.tup (.cons (.tup (.cons (.v 6) (.cons (.call "_law_bad_number" (.cons (.v 0) .nil) [] .nil) .nil))) .nil))) (.sl false (.v 3) (.some (.bin .add false (.v 5) (.int 1))) .none)) .nil)))) .nil)))))))))), false⟩
def f_law_bad_vow : Fn := ⟨7, ["deck", "vow"], (.cons (.set (.tp (.cons (.nm 2) (.cons (.nm 3) (.cons (.nm 4) (.cons (.nm 5) .nil))))) (.v 1)) (.cons (.set (.nm 6) (.lst false (.cons (.tup (.cons (.int 4) (.cons (.v 3) (.cons (.v 4) (.cons (.tup (.cons (.int 1) (.cons (.int 1) .nil))) .nil))))) (.cons (.tup (.cons (.neg (.int 1)) (.cons (.v 3) (.cons (.v 4) (.cons (.tup (.cons (.int 1) (.cons (.int 1) .nil))) .nil))))) (.cons (.tup (.cons (.v 2) (.cons (.str "least") (.cons (.v 4) (.cons (.v 5) .nil))))) (.cons (.tup (.cons (.v 2) (.cons (.str "") (.cons (.v 4) (.cons (.v 5) .nil))))) .nil)))))) (.cons (.set (.nm 6) (.bin .add false (.v 6) (.lst false (.cons (.tup (.cons (.v 2) (.cons (.v 3) (.cons (.call "_law_bad_shape" (.cons (.v 0) (.cons (.v 4) .nil)) [] .nil) (.cons (.v 5) .nil))))) (.cons (.tup (.cons (.int 0) (.cons (.v 3) (.cons (.v 4) (.cons (.tup (.cons (.int 2) (.cons (.int 1) .nil))) .nil))))) (.cons (.tup (.cons (.int 1) (.cons (.v 3) (.cons (.v 4) (.cons (.tup (.cons (.int 0) (.cons (.int 1) .nil))) .nil))))) .nil)))))) (.cons (.set (.nm 6) (.bin .add false (.v 6) (.lst false (.cons (.tup (.cons (.int 2) (.cons (.v 3) (.cons (.v 4) (.cons (.tup (.cons (.neg (.int 1)) (.cons (.int 2) .nil))) .nil))))) (.cons (.tup (.cons (.int 3) (.cons (.v 3) (.cons (.v 4) (.cons (.call "_law_bad_number" (.cons (.v 0) .nil) [] .nil) .nil))))) (.cons (.tup (.cons (.int 0) (.cons (.v 3) (.cons (.v 4) (.cons (.tup (.cons (.int 1) (.cons (.int 2) .nil))) .nil))))) .nil)))))) (.cons (.ret (.ix (.v 6) (.ix (.lst false (.cons (.int 4) (.cons (.int 4) (.cons (.int 4) (.cons (.call "_law_take" (.cons (.v 0) (.cons (.int 10) .nil)) [] .nil) (.cons (.call "_law_take" (.cons (.v 0) (.cons (.int 10) .nil)) [] .nil) .nil)))))) (.call "_law_take" (.cons (.v 0) (.cons (.int 5) .nil)) [] .nil)))) .nil))))), false⟩
def f_law_bad_ledger : Fn := ⟨9, ["deck", "ledger"], (.cons (.set (.tp (.cons (.nm 2) (.cons (.nm 3) .nil))) (.v 1)) (.cons (.set (.tp (.cons (.nm 4) (.cons (.nm 5) .nil))) (.tup (.cons (.call "_law_vow" (.cons (.v 0) (.cons (.v 2) (.cons (.call "_law_take" (.cons (.v 0) (.cons (.int 4) .nil)) [] .nil) .nil))) [] .nil) (.cons (.call "_law_take" (.cons (.v 0) (.cons (.bin .add false (.blt .len false (.cons (.v 3) .nil)) (.int 1)) .nil)) [] .nil) .nil)))) (.cons (.set (.nm 6) (.tup (.cons (.ix (.v 4) (.int 0)) (.cons (.ix (.v 4) (.int 1)) (.cons (.ix (.call "_law_foreign" (.cons (.v 0) (.cons (.v 2) .nil)) [] .nil) (.int 0)) (.cons (.ix (.v 4) (.int 3)) .nil)))))) (.cons (.set (.nm 7) (.call "_law_take" (.cons (.v 0) (.cons (.blt .len false (.cons (.v 2) .nil)) .nil)) [] .nil)) (.cons (.set (.nm 8) (.lst true (.cons (.tup (.cons (.tup .nil) (.cons (.v 3) .nil))) (.cons (.tup (.cons (.tup .nil) (.cons (.tup .nil) .nil))) (.cons (.tup (.cons (.bin .add false (.sl false (.v 2) .none (.some (.bin .add false (.v 7) (.int 1)))) (.sl false (.v 2) (.some (.v 7)) .none)) (.cons (.v 3) .nil))) (.cons (.tup (.cons (.bin .add false (.bin .add false (.sl false (.v 2) .none (.some (.v 7))) (.tup (.cons (.call "_law_bad_label" (.cons (.v 0) .nil) [] .nil) .nil))) (.sl false (.v 2) (.some (.v 7)) .none)) (.cons (.v 3) .nil))) .nil)))))) (.cons (.set (.nm 8) (.bin .add true (.v 8) (.lst false (.cons (.tup (.cons (.tup (.cons (.str "b") (.cons (.str "a") .nil))) (.cons (.tup .nil) .nil))) (.cons (.tup (.cons (.tup (.cons (.str "c") (.cons (.str "e") (.cons (.str "d") .nil)))) (.cons (.tup .nil) .nil))) (.cons (.tup (.cons (.v 2) (.cons (.bin .add false (.bin .add false (.sl false (.v 3) .none (.some (.v 5))) (.tup (.cons (.v 6) .nil))) (.sl false (.v 3) (.some (.v 5)) .none)) .nil))) .nil)))))) (.cons (.ex (.met .append false (.v 8) (.cons (.tup (.cons (.v 2) (.cons (.bin .add false (.bin .add false (.sl false (.v 3) .none (.some (.v 5))) (.tup (.cons (.call "_law_bad_vow" (.cons (.v 0) (.cons (.v 4) .nil)) [] .nil) .nil))) (.sl false (.v 3) (.some (.v 5)) .none)) .nil))) .nil))) (.cons (.ret (.ix (.v 8) (.ix (.lst false (.cons (.call "_law_take" (.cons (.v 0) (.cons (.int 8) .nil)) [] .nil) (.cons (.int 6) (.cons (.int 7) .nil)))) (.call "_law_take" (.cons (.v 0) (.cons (.int 3) .nil)) [] .nil)))) .nil)))))))), false⟩
def f_law_bad_spot : Fn := ⟨4, ["deck", "spot"], (.cons (.set (.nm 2) (.call "_law_take" (.cons (.v 0) (.cons (.blt .len false (.cons (.v 1) .nil)) .nil)) [] .nil)) (.cons (.set (.nm 3) (.lst false (.cons (.sl false (.v 1) (.some (.int 1)) .none) (.cons (.bin .add false (.v 1) (.tup (.cons (.tup (.cons (.int 0) (.cons (.int 1) .nil))) .nil))) (.cons (.tup .nil) (.cons (.bin .add false (.bin .add false (.sl false (.v 1) .none (.some (.v 2))) (.tup (.cons (.call "_law_bad_number" (.cons (.v 0) .nil) [] .nil) .nil))) (.sl false (.v 1) (.some (.bin .add false (.v 2) (.int 1))) .none)) .nil)))))) (.cons (.ret (.ix (.v 3) (.ix (.lst false (.cons (.int 0) (.cons (.int 1) (.cons (.int 2) (.cons (.int 3) (.cons (.int 3) (.cons (.int 3) .nil))))))) (.call "_law_take" (.cons (.v 0) (.cons (.int 6) .nil)) [] .nil)))) .nil))), false⟩
def l_law_spoil_rows_1 : As := .for (.nm 5) (.range1 (.bin .add false (.int 1) (.call "_law_take" (.cons (.v 0) (.cons (.int 2) .nil)) [] .nil))) (.cons (.set (.nm 6) (.tup (.cons (.call "_law_bad_label" (.cons (.v 0) .nil) [] .nil) (.cons (.ix (.lst false (.cons (.tup (.cons (.int 1) (.cons (.int 1) .nil))) (.cons (.tup (.cons (.int 0) (.cons (.int 1) .nil))) (.cons (.tup (.cons (.neg (.int 2)) (.cons (.int 3) .nil))) .nil)))) (.call "_law_take" (.cons (.v 0) (.cons (.int 3) .nil)) [] .nil)) .nil)))) (.cons (.ite (.cmp .eq (.v 1) (.str "rows number")) (.cons (.set (.nm 6) (.tup (.cons (.ix (.v 2) (.str "label")) (.cons (.call "_law_bad_number" (.cons (.v 0) .nil) [] .nil) .nil)))) .nil) .nil) (.cons (.ite (.and (.cons (.cmp .ne (.v 4) (.lst false .nil)) (.cons (.cmp .eq (.v 1) (.str "rows label")) (.cons (.cmp .eq (.call "_law_take" (.cons (.v 0) (.cons (.int 2) .nil)) [] .nil) (.int 0)) .nil)))) (.cons (.set (.nm 6) (.tup (.cons (.ix (.ix (.v 4) (.int 0)) (.int 0)) (.cons (.tup (.cons (.neg (.ix (.ix (.ix (.v 4) (.int 0)) (.int 1)) (.int 0))) (.cons (.ix (.ix (.ix (.v 4) (.int 0)) (.int 1)) (.int 1)) .nil))) .nil)))) .nil) .nil) (.cons (.ex (.met .append false (.v 4) (.cons (.v 6) .nil))) (.cons (.ex (.met .insert false (.v 3) (.cons (.call "_law_take" (.cons (.v 0) (.cons (.bin .add false (.blt .len false (.cons (.v 3) .nil)) (.int 1)) .nil)) [] .nil) (.cons (.v 6) .nil)))) .nil)))))
def c_law_spoil_rows_2 : Ae := .comp false (.v 7) (.tp (.cons (.nm 7) (.cons (.nm 8) .nil))) (.ex (.v 3)) (.some (.not (.call "_law_is_label" (.cons (.v 7) .nil) [] .nil))) [("label", 7), ("amount", 8)]
def c_law_spoil_rows_3 : Ae := .comp false (.v 8) (.tp (.cons (.nm 7) (.cons (.nm 8) .nil))) (.ex (.v 3)) (.some (.not (.call "_law_is_pair" (.cons (.v 8) .nil) [] .nil))) [("label", 7), ("amount", 8)]
def f_law_spoil_rows : Fn := ⟨9, ["deck", "key", "g"], (.cons (.set (.tp (.cons (.nm 3) (.cons (.nm 4) .nil))) (.tup (.cons (.blt .list true (.cons (.ix (.v 2) (.str "rows")) .nil)) (.cons (.lst true .nil) .nil)))) (.cons l_law_spoil_rows_1 (.cons (.put (.v 2) (.str "rows") (.v 3)) (.cons (.ite (.cmp .eq (.v 1) (.str "rows label")) (.cons (.ret (.lst true (.cons (.str "InvalidName") (.cons (.ix c_law_spoil_rows_2 (.int 0)) .nil)))) .nil) .nil) (.cons (.ret (.lst true (.cons (.str "InvalidNumber") (.cons (.ix c_law_spoil_rows_3 (.int 0)) .nil)))) .nil))))), true⟩
def f_law_keys : Fn := ⟨2, ["word"], (.cons (.set (.nm 1) (.dnew (.cons (.str "by") (.lst false (.cons (.str "m") (.cons (.str "n") (.cons (.str "nil") .nil)))) (.cons (.str "form") (.lst false (.cons (.str "rows label") (.cons (.str "m") (.cons (.str "rows number") .nil)))) (.cons (.str "added") (.lst false (.cons (.str "shape") (.cons (.str "second") .nil))) .nil))))) (.cons (.put (.v 1) (.str "scaled") (.lst false (.cons (.str "m") (.cons (.str "shape") .nil)))) (.cons (.put (.v 1) (.str "worth") (.lst false (.cons (.str "shape") (.cons (.str "spot") (.cons (.str "shape strange") .nil))))) (.cons (.put (.v 1) (.str "put_in") (.lst false (.cons (.str "label") (.cons (.str "shape") (.cons (.str "second") .nil))))) (.cons (.put (.v 1) (.str "names_of") (.lst false (.cons (.str "shape") .nil))) (.cons (.put (.v 1) (.str "broken_by") (.lst false (.cons (.str "vow") (.cons (.str "spot") (.cons (.str "vow strange") .nil))))) (.cons (.put (.v 1) (.str "stages") (.lst false (.cons (.str "ledger") .nil))) (.cons (.put (.v 1) (.str "counted") (.lst false (.cons (.str "ledger") (.cons (.str "spot") (.cons (.str "tier") .nil))))) (.cons (.put (.v 1) (.str "compared") (.lst false (.cons (.str "ledger") (.cons (.str "spot") (.cons (.str "goal") .nil))))) (.cons (.put (.v 1) (.str "with_wish") (.lst false (.cons (.str "ledger") (.cons (.str "vow") (.cons (.str "vow strange") .nil))))) (.cons (.put (.v 1) (.str "without") (.lst false (.cons (.str "ledger") (.cons (.str "at") .nil)))) (.cons (.put (.v 1) (.str "at_number") (.lst false (.cons (.str "ledger") (.cons (.str "label strange") (.cons (.str "m") .nil))))) (.cons (.ite (.cmp .inn (.v 0) (.lst false (.cons (.str "plus") (.cons (.str "minus") (.cons (.str "times") (.cons (.str "below") .nil)))))) (.cons (.ret (.lst false (.cons (.str "m") (.cons (.str "n") .nil)))) .nil) .nil) (.cons (.ite (.cmp .inn (.v 0) (.lst false (.cons (.str "size") (.cons (.str "sign") (.cons (.str "rounded") .nil))))) (.cons (.ret (.lst false (.cons (.str "m") .nil))) .nil) .nil) (.cons (.ret (.met .get false (.v 1) (.cons (.v 0) (.cons (.lst false (.cons (.str "ledger") (.cons (.str "spot") .nil))) .nil)))) .nil))))))))))))))), false⟩
def l_law_refused_1 : As := .for (.nm 5) (.ex (.rev false (.call "_law_keys" (.cons (.v 1) .nil) [] .nil))) (.cons (.ite (.cmp .eq (.call "_law_take" (.cons (.v 0) (.cons (.int 2) .nil)) [] .nil) (.int 1)) (.cons (.set (.nm 4) (.call "_law_spoil" (.cons (.v 0) (.cons (.v 5) (.cons (.v 3) .nil))) [] .nil)) (.cons (.ite (.cmp .eq (.ix (.v 4) (.int 0)) (.str "DividedByZero")) (.cons (.set (.nm 4) (.lst true (.cons (.str "DividedByZero") (.cons .non .nil)))) .nil) .nil) .nil)) .nil) .nil)
def f_law_refused : Fn := ⟨7, ["deck", "word", "ledger"], (.cons (.set (.tp (.cons (.nm 3) (.cons (.nm 4) .nil))) (.tup (.cons (.call "_law_good" (.cons (.v 0) (.cons (.v 2) .nil)) [] .nil) (.cons (.lst true (.cons (.str "") (.cons .non .nil))) .nil)))) (.cons l_law_refused_1 (.cons (.ite (.cmp .eq (.ix (.v 4) (.int 0)) (.str "DividedByZero")) (.cons (.put (.v 4) (.int 1) (.ix (.v 3) (.str "m"))) .nil) .nil) (.cons (.ite (.and (.cons (.cmp .eq (.v 1) (.str "without")) (.cons (.cmp .eq (.ix (.v 2) (.int 1)) (.tup .nil)) (.cons (.cmp .eq (.ix (.v 4) (.int 0)) (.str "")) .nil)))) (.cons (.set (.nm 4) (.lst true (.cons (.str "InvalidIndex") (.cons (.ix (.v 3) (.str "at")) .nil)))) .nil) .nil) (.cons (.ite (.cmp .eq (.call "_law_take" (.cons (.v 0) (.cons (.int 2) .nil)) [] .nil) (.int 1)) (.cons (.put (.v 3) (.str "rows") (.blt .tuple false (.cons (.ix (.v 3) (.str "rows")) .nil))) .nil) .nil) (.cons (.set (.nm 6) (.call "_law_answer" (.cons (.v 1) (.cons (.v 3) (.cons (.cmp .eq (.call "_law_take" (.cons (.v 0) (.cons (.int 2) .nil)) [] .nil) (.int 1)) .nil))) [] .nil)) (.cons (.ret (.and (.cons (.cmp .eq (.ix (.v 6) (.int 0)) (.ix (.v 4) (.int 0))) (.cons (.call "_law_same" (.cons (.ix (.v 6) (.int 1)) (.cons (.ix (.v 4) (.int 1)) .nil)) [] .nil) .nil)))) .nil))))))), false⟩
def l_law_1_v5 : As := .for (.nm 5) (.ex (.v 1)) (.cons (.ite (.not (.call "_law_refused" (.cons (.v 3) (.cons (.v 5) (.cons (.v 4) .nil))) [] .nil)) (.cons (.ret (.bl false)) .nil) .nil) .nil)
def l_law_2_v5 : As := .for (.nm 2) (.range1 (.blt .max false (.cons (.int 2) (.cons (.blt .min false (.cons (.blt .len false (.cons (.v 0) .nil)) (.cons (.int 10) .nil))) .nil)))) (.cons (.set (.nm 3) (.call "_law_deck" (.cons (.v 0) (.cons (.v 2) .nil)) [] .nil)) (.cons (.set (.nm 4) (.call "_law_ledger" (.cons (.v 3) (.cons (.int 30) .nil)) [] .nil)) (.cons l_law_1_v5 .nil)))
def f_law_v5 : Fn := ⟨6, ["script"], (.cons (.set (.nm 1) (.lst false (.cons (.str "plus") (.cons (.str "minus") (.cons (.str "times") (.cons (.str "by") (.cons (.str "below") (.cons (.str "size") (.cons (.str "sign") (.cons (.str "rounded") (.cons (.str "form") (.cons (.str "added") (.cons (.str "scaled") (.cons (.str "worth") .nil)))))))))))))) (.cons (.set (.nm 1) (.bin .add false (.v 1) (.lst false (.cons (.str "put_in") (.cons (.str "names_of") (.cons (.str "broken_by") (.cons (.str "is_let") (.cons (.str "stages") (.cons (.str "counted") (.cons (.str "counts") (.cons (.str "compared") .nil))))))))))) (.cons (.set (.nm 1) (.bin .add false (.v 1) (.lst false (.cons (.str "with_wish") (.cons (.str "without") (.cons (.str "at_number") .nil)))))) (.cons l_law_2_v5 (.cons (.ret (.bl true)) .nil))))), false⟩
def c_law_spots_1_v2 : Ae := .comp false (.call "_law_pair" (.cons (.bin .sub false (.call "_law_take" (.cons (.v 0) (.cons (.int 19) .nil)) [] .nil) (.int 9)) (.cons (.bin .add false (.int 1) (.call "_law_take" (.cons (.v 0) (.cons (.int 2) .nil)) [] .nil)) .nil)) [] .nil) (.nm 8) (.ex (.v 1)) .none [("label", 8)]
def c_law_spots_2_v2 : Ae := .comp false (.call "_law_number" (.cons (.v 0) .nil) [] .nil) (.nm 8) (.ex (.v 1)) .none [("label", 8)]
def c_law_spots_3_v2 : Ae := .comp false (.bin .sub false (.bin .mul false (.int 2) (.call "_law_take" (.cons (.v 0) (.cons (.int 2) .nil)) [] .nil)) (.int 1)) (.nm 8) (.ex (.v 1)) .none [("label", 8)]
def c_law_spots_4_v2 : Ae := .comp false (.tup (.cons (.bin .mul false (.ix (.ix (.ix (.v 3) (.int 0)) (.v 9)) (.int 0)) (.ix (.v 6) (.v 9))) (.cons (.ix (.ix (.ix (.v 3) (.int 0)) (.v 9)) (.int 1)) .nil))) (.nm 9) (.range1 (.blt .len false (.cons (.v 1) .nil))) .none [("j", 9)]
def l_law_spots_5_v2 : As := .for (.nm 4) (.range1 (.v 2)) (.cons (.set (.nm 5) (.blt .tuple false (.cons c_law_spots_1_v2 .nil))) (.cons (.ite (.and (.cons (.cmp .gt (.v 4) (.int 1)) (.cons (.cmp .eq (.call "_law_take" (.cons (.v 0) (.cons (.int 2) .nil)) [] .nil) (.int 0)) .nil))) (.cons (.set (.nm 5) (.blt .tuple false (.cons c_law_spots_2_v2 .nil))) .nil) .nil) (.cons (.ite (.and (.cons (.cmp .gt (.v 4) (.int 0)) (.cons (.cmp .eq (.call "_law_take" (.cons (.v 0) (.cons (.int 3) .nil)) [] .nil) (.int 0)) .nil))) (.cons (.set (.nm 6) c_law_spots_3_v2) (.cons (.set (.nm 5) (.blt .tuple false (.cons c_law_spots_4_v2 .nil))) .nil)) .nil) (.cons (.ite (.and (.cons (.cmp .gt (.v 4) (.int 0)) (.cons (.cmp .eq (.call "_law_take" (.cons (.v 0) (.cons (.int 4) .nil)) [] .nil) (.int 0)) .nil))) (.cons (.set (.nm 7) (.call "_law_take" (.cons (.v 0) (.cons (.blt .len false (.cons (.v 1) .nil)) .nil)) [] .nil)) (.cons (.set (.nm 5) (.bin .add false (.bin .add false (.sl false (.ix (.v 3) (.int 0)) .none (.some (.v 7))) (.tup (.cons (.ix (.v 5) (.v 7)) .nil))) (.sl false (.ix (.v 3) (.int 0)) (.some (.bin .add false (.v 7) (.int 1))) .none))) .nil)) .nil) (.cons (.ex (.met .append false (.v 3) (.cons (.v 5) .nil))) .nil)))))
def f_law_spots_v2 : Fn := ⟨10, ["deck", "labels", "many"], (.cons (.set (.nm 3) (.lst true .nil)) (.cons l_law_spots_5_v2 (.cons (.ret (.v 3)) .nil))), true⟩
def c_law_mixed_1 : Ae := .comp false (.call "_law_plus" (.cons (.call "_law_times" (.cons (.v 3) (.cons (.v 4) .nil)) [] .nil) (.cons (.call "_law_times" (.cons (.v 2) (.cons (.v 5) .nil)) [] .nil) .nil)) [] .nil) (.tp (.cons (.nm 4) (.cons (.nm 5) .nil))) (.zip2 (.v 0) (.v 1)) .none [("m", 4), ("n", 5)]
def f_law_mixed : Fn := ⟨6, ["first", "second", "share"], (.cons (.set (.nm 3) (.call "_law_plus" (.cons (.tup (.cons (.int 1) (.cons (.int 1) .nil))) (.cons (.tup (.cons (.neg (.ix (.v 2) (.int 0))) (.cons (.ix (.v 2) (.int 1)) .nil))) .nil)) [] .nil)) (.cons (.ret (.blt .tuple false (.cons c_law_mixed_1 .nil))) .nil)), false⟩
def c_law_between_right_1 : Ae := .comp false (.v 10) (.nm 10) (.range1 (.blt .len false (.cons (.v 9) .nil))) (.some (.call "_law_less" (.cons (.ix (.v 9) (.v 10)) (.cons (.ix (.v 8) (.v 10)) .nil)) [] .nil)) [("k", 10)]
def f_law_between_right : Fn := ⟨13, ["ledger", "ends", "sums", "share"], (.cons (.set (.tp (.cons (.nm 4) (.cons (.nm 5) .nil))) (.v 1)) (.cons (.set (.nm 6) (.call "_law_mixed" (.cons (.v 4) (.cons (.v 5) (.cons (.v 3) .nil))) [] .nil)) (.cons (.ite (.not (.call "_law_same" (.cons (.call "is_let" (.cons (.v 0) (.cons (.v 6) .nil)) [] .nil) (.cons (.bl true) .nil)) [] .nil)) (.cons (.ret (.bl false)) .nil) .nil) (.cons (.set (.tp (.cons (.nm 7) (.cons (.nm 8) .nil))) (.tup (.cons (.call "counts" (.cons (.v 0) (.cons (.v 6) .nil)) [] .nil) (.cons (.call "_law_counts" (.cons (.v 0) (.cons (.dzip (.ix (.v 0) (.int 0)) (.v 6)) .nil)) [] .nil) .nil)))) (.cons (.set (.nm 9) (.call "_law_mixed" (.cons (.ix (.v 2) (.int 0)) (.cons (.ix (.v 2) (.int 1)) (.cons (.v 3) .nil))) [] .nil)) (.cons (.ite (.or (.cons (.not (.call "_law_same" (.cons (.v 7) (.cons (.v 8) .nil)) [] .nil)) (.cons (.cmp .ne c_law_between_right_1 (.lst false .nil)) .nil))) (.cons (.ret (.bl false)) .nil) .nil) (.cons (.set (.nm 11) (.call "_law_first" (.cons (.ix (.v 2) (.int 0)) (.cons (.ix (.v 2) (.int 1)) .nil)) [] .nil)) (.cons (.ite (.and (.cons (.cmp .eq (.v 11) (.int 0)) (.cons (.not (.call "_law_same" (.cons (.call "compared" (.cons (.v 0) (.cons (.v 4) (.cons (.v 6) .nil))) [] .nil) (.cons (.int 1) .nil)) [] .nil)) .nil))) (.cons (.ret (.bl false)) .nil) .nil) (.cons (.set (.nm 12) (.ix (.lst false (.cons (.v 5) (.cons (.v 4) .nil))) (.blt .int false (.cons (.cmp .eq (.v 11) (.int 1)) .nil)))) (.cons (.ret (.call "_law_same" (.cons (.lst false (.cons (.call "compared" (.cons (.v 0) (.cons (.v 6) (.cons (.v 12) .nil))) [] .nil) (.cons (.call "compared" (.cons (.v 0) (.cons (.v 12) (.cons (.v 6) .nil))) [] .nil) .nil))) (.cons (.lst false (.cons (.neg (.int 1)) (.cons (.int 1) .nil))) .nil)) [] .nil)) .nil)))))))))), false⟩
def c_law_1_v6 : Ae := .comp false (.call "_law_counts" (.cons (.v 5) (.cons (.dzip (.v 3) (.v 10)) .nil)) [] .nil) (.nm 10) (.ex (.v 4)) .none [("spot", 10)]
def l_law_2_v6 : As := .for (.nm 8) (.ex (.lst false (.cons (.tup (.cons (.int 1) (.cons (.int 2) .nil))) (.cons (.call "_law_pair" (.cons (.bin .add false (.int 1) (.call "_law_take" (.cons (.v 2) (.cons (.int 98) .nil)) [] .nil)) (.cons (.int 100) .nil)) [] .nil) .nil)))) (.cons (.ite (.not (.call "_law_between_right" (.cons (.v 5) (.cons (.v 4) (.cons (.v 6) (.cons (.v 8) .nil)))) [] .nil)) (.cons (.ret (.bl false)) .nil) .nil) .nil)
def l_law_3_v6 : As := .for (.nm 1) (.range1 (.blt .max false (.cons (.int 2) (.cons (.blt .min false (.cons (.blt .len false (.cons (.v 0) .nil)) (.cons (.int 6) .nil))) .nil)))) (.cons (.set (.nm 2) (.call "_law_deck" (.cons (.v 0) (.cons (.v 1) .nil)) [] .nil)) (.cons (.set (.nm 3) (.call "_law_labels" (.cons (.v 2) (.cons (.ix (.lst false (.cons (.int 2) (.cons (.int 4) (.cons (.int 12) .nil)))) (.call "_law_take" (.cons (.v 2) (.cons (.int 3) .nil)) [] .nil)) .nil)) [] .nil)) (.cons (.set (.nm 4) (.call "_law_spots" (.cons (.v 2) (.cons (.v 3) (.cons (.int 2) .nil))) [] .nil)) (.cons (.ite (.cmp .eq (.ix (.v 4) (.int 0)) (.ix (.v 4) (.int 1))) (.cons (.set (.nm 9) (.call "_law_plus" (.cons (.ix (.ix (.v 4) (.int 1)) (.int 0)) (.cons (.tup (.cons (.bin .add false (.int 1) (.call "_law_take" (.cons (.v 2) (.cons (.int 3) .nil)) [] .nil)) (.cons (.int 1) .nil))) .nil)) [] .nil)) (.cons (.put (.v 4) (.int 1) (.bin .add false (.tup (.cons (.v 9) .nil)) (.sl false (.ix (.v 4) (.int 1)) (.some (.int 1)) .none))) .nil)) .nil) (.cons (.set (.nm 5) (.call "_law_kind_ledger" (.cons (.v 2) (.cons (.v 3) (.cons (.v 4) (.cons (.ifx (.or (.cons (.cmp .eq (.v 1) (.int 0)) (.cons (.cmp .lt (.blt .len false (.cons (.v 3) .nil)) (.int 5)) .nil))) (.int 36) (.int 9)) .nil)))) [] .nil)) (.cons (.set (.nm 6) c_law_1_v6) (.cons (.set (.nm 7) (.call "_law_first" (.cons (.ix (.v 6) (.int 0)) (.cons (.ix (.v 6) (.int 1)) .nil)) [] .nil)) (.cons (.ite (.not (.call "_law_same" (.cons (.call "compared" (.cons (.v 5) (.cons (.ix (.v 4) (.int 0)) (.cons (.ix (.v 4) (.int 1)) .nil))) [] .nil) (.cons (.ix (.lst false (.cons (.v 7) (.cons (.call "_law_first" (.cons (.ix (.v 4) (.int 0)) (.cons (.ix (.v 4) (.int 1)) .nil)) [] .nil) .nil))) (.blt .int false (.cons (.cmp .eq (.v 7) (.int 0)) .nil))) .nil)) [] .nil)) (.cons (.ret (.bl false)) .nil) .nil) (.cons l_law_2_v6 .nil)))))))))
def f_law_v6 : Fn := ⟨11, ["script"], (.cons l_law_3_v6 (.cons (.ret (.bl true)) .nil)), false⟩
end Mx.FA

end

section
set_option linter.all false
set_option maxRecDepth 100000
set_option maxHeartbeats 4000000
set_option exponentiation.threshold 20000
namespace Mx.FA
open PySem PySem.Spec PyProof.Rows L2 Mx
/-! numbers as rationals -/
/-- a rational as a pair -/
def nq (r : Rat) : PV := .tup [.int r.num, .int (r.den : Int)]
instance (r : Rat) : Dt (nq r) := inferInstanceAs (Dt (.tup [.int r.num, .int (r.den : Int)]))
/-- how long a number is -/
def szn (n : Nat) : Nat := n.log2 + 1
def sz (r : Rat) : Nat := max (szn r.num.natAbs) (szn r.den)
theorem szn_lt (n : Nat) : n < 2 ^ szn n := Nat.lt_log2_self
theorem szn_le {n k : Nat} (h : n < 2 ^ k) (hk : 1 ≤ k := by omega) : szn n ≤ k := by
  unfold szn
  by_cases h0 : n = 0
  · subst h0; simpa using hk
  · have := (Nat.log2_lt h0).mpr h
    omega
theorem pw {a b : Nat} (h : a ≤ b) : 2 ^ a ≤ 2 ^ b := Nat.pow_le_pow_right (by decide) h
theorem sz_num (r : Rat) : r.num.natAbs < 2 ^ sz r := Nat.lt_of_lt_of_le (szn_lt _) (pw (Nat.le_max_left ..))
theorem sz_den (r : Rat) : r.den < 2 ^ sz r := Nat.lt_of_lt_of_le (szn_lt _) (pw (Nat.le_max_right ..))
theorem sz_of {r : Rat} {k : Nat} (h1 : r.num.natAbs < 2 ^ k) (h2 : r.den < 2 ^ k) (hk : 1 ≤ k) : sz r ≤ k := Nat.max_le.mpr ⟨szn_le h1 hk, szn_le h2 hk⟩
theorem sz_pos (r : Rat) : 1 ≤ sz r := Nat.le_trans (by unfold szn; omega) (Nat.le_max_left (szn r.num.natAbs) (szn r.den))
theorem den_ne (r : Rat) : (r.den : Int) ≠ 0 := by have := r.den_pos; omega
theorem den_pos (r : Rat) : (0 : Int) < r.den := by have := r.den_pos; omega
/-- a quotient in lowest terms is not longer than its top and bottom -/
theorem divInt_le (n : Int) {d : Int} (hd : d ≠ 0) : (Rat.divInt n d).num.natAbs ≤ n.natAbs ∧ (Rat.divInt n d).den ≤ d.natAbs := by
  rw [Rat.num_divInt, Rat.den_divInt, if_neg hd]
  have dv : (↑(d.gcd n) : Int) ∣ d.sign * n := Int.dvd_mul_of_dvd_right (Int.gcd_dvd_right ..)
  refine ⟨?_, Nat.div_le_self ..⟩
  rw [Int.natAbs_ediv_of_dvd dv, Int.natAbs_mul]
  refine Nat.le_trans (Nat.div_le_self ..) ?_
  rw [Int.natAbs_sign, if_neg hd, Nat.one_mul]
  exact Nat.le_refl _
theorem sz_divInt {n d : Int} {k : Nat} (hd : d ≠ 0) (h1 : n.natAbs < 2 ^ k) (h2 : d.natAbs < 2 ^ k) (hk : 1 ≤ k) : sz (Rat.divInt n d) ≤ k :=
  sz_of (Nat.lt_of_le_of_lt (divInt_le n hd).1 h1) (Nat.lt_of_le_of_lt (divInt_le n hd).2 h2) hk
theorem low_num (t : Int) {b : Int} (hb : b ≠ 0) : t.fdiv (if b < 0 then -(Nat.gcd t.natAbs b.natAbs : Int) else (Nat.gcd t.natAbs b.natAbs : Int)) = (Rat.divInt t b).num := by
  rw [Rat.num_divInt]
  have hg : Nat.gcd t.natAbs b.natAbs = b.gcd t := Nat.gcd_comm ..
  rw [hg]
  have d1 : (↑(b.gcd t) : Int) ∣ t := Int.gcd_dvd_right ..
  split
  · rename_i h
    rw [Int.sign_eq_neg_one_of_neg h, Int.fdiv_eq_ediv_of_dvd (Int.neg_dvd.mpr d1), Int.ediv_neg, Int.neg_mul, Int.one_mul, Int.neg_ediv_of_dvd d1]
  · rename_i h
    rw [Int.sign_eq_one_of_pos (by omega), Int.fdiv_eq_ediv_of_dvd d1, Int.one_mul]
theorem low_den (t : Int) {b : Int} (hb : b ≠ 0) : b.fdiv (if b < 0 then -(Nat.gcd t.natAbs b.natAbs : Int) else (Nat.gcd t.natAbs b.natAbs : Int)) = ((Rat.divInt t b).den : Int) := by
  rw [Rat.den_divInt, if_neg hb]
  have hg : Nat.gcd t.natAbs b.natAbs = b.gcd t := Nat.gcd_comm ..
  rw [hg]
  have d1 : (↑(b.gcd t) : Int) ∣ b := Int.gcd_dvd_left ..
  split
  · rename_i h
    rw [Int.fdiv_eq_ediv_of_dvd (Int.neg_dvd.mpr d1), Int.ediv_neg, Int.natCast_ediv, ← Int.neg_ediv_of_dvd d1]
    congr 1; omega
  · rename_i h
    rw [Int.fdiv_eq_ediv_of_dvd d1, Int.natCast_ediv]
    congr 1; omega
theorem low_nq (t : Int) {b : Int} (hb : b ≠ 0) : PV.tup [.int (t.fdiv (if b < 0 then -(Nat.gcd t.natAbs b.natAbs : Int) else (Nat.gcd t.natAbs b.natAbs : Int))), .int (b.fdiv (if b < 0 then -(Nat.gcd t.natAbs b.natAbs : Int) else (Nat.gcd t.natAbs b.natAbs : Int)))] = nq (Rat.divInt t b) := by
  rw [low_num t hb, low_den t hb]; rfl
theorem nq_inj {a b : Rat} (h : nq a = nq b) : a = b := by
  unfold nq at h
  simp only [PV.tup.injEq, List.cons.injEq, PV.int.injEq, and_true] at h
  exact Rat.ext h.1 (by omega)
theorem divInt_self' (r : Rat) : Rat.divInt r.num r.den = r := Rat.num_divInt_den r
theorem divInt_one (n : Int) : Rat.divInt n 1 = (n : Rat) := by
  have := Rat.num_divInt_den (n : Rat)
  simpa using this
theorem nq_int (n : Int) : nq (n : Rat) = .tup [.int n, .int 1] := by unfold nq; simp
theorem sz_int {n : Int} {k : Nat} (h : n.natAbs < 2 ^ k) (hk : 1 ≤ k := by omega) : sz (n : Rat) ≤ k := sz_of (by simpa using h) (by simpa using Nat.one_lt_two_pow (by omega)) hk
theorem sz_mul (a b : Rat) : sz (a * b) ≤ sz a + sz b := by
  have e : a * b = Rat.divInt (a.num * b.num) (a.den * b.den) := by
    conv => lhs; rw [← divInt_self' a, ← divInt_self' b]
    rw [Rat.divInt_mul_divInt]
  rw [e]
  refine sz_divInt (Int.mul_ne_zero (den_ne a) (den_ne b)) ?_ ?_ (by have := sz_pos a; omega)
  · rw [Int.natAbs_mul, Nat.pow_add]; exact Nat.mul_lt_mul'' (sz_num a) (sz_num b)
  · rw [Int.natAbs_mul, Nat.pow_add]; exact Nat.mul_lt_mul'' (by simpa using sz_den a) (by simpa using sz_den b)
theorem add_divInt (a b : Rat) : a + b = Rat.divInt (a.num * b.den + b.num * a.den) (a.den * b.den) := by
  conv => lhs; rw [← divInt_self' a, ← divInt_self' b]
  rw [Rat.divInt_add_divInt _ _ (den_ne a) (den_ne b)]
theorem mul_divInt (a b : Rat) : a * b = Rat.divInt (a.num * b.num) (a.den * b.den) := by
  conv => lhs; rw [← divInt_self' a, ← divInt_self' b]
  rw [Rat.divInt_mul_divInt]
theorem sz_add (a b : Rat) : sz (a + b) ≤ sz a + sz b + 1 := by
  rw [add_divInt]
  refine sz_divInt (Int.mul_ne_zero (den_ne a) (den_ne b)) ?_ ?_ (by omega)
  · have h1 : a.num.natAbs * b.den < 2 ^ (sz a + sz b) := by rw [Nat.pow_add]; exact Nat.mul_lt_mul'' (sz_num a) (sz_den b)
    have h2 : b.num.natAbs * a.den < 2 ^ (sz a + sz b) := by rw [Nat.add_comm, Nat.pow_add]; exact Nat.mul_lt_mul'' (sz_num b) (sz_den a)
    have h3 : (a.num * b.den + b.num * a.den).natAbs ≤ a.num.natAbs * b.den + b.num.natAbs * a.den := by
      refine Nat.le_trans (Int.natAbs_add_le ..) ?_
      rw [Int.natAbs_mul, Int.natAbs_mul]; simp
    rw [Nat.pow_succ]; omega
  · have h1 : a.den * b.den < 2 ^ (sz a + sz b) := by rw [Nat.pow_add]; exact Nat.mul_lt_mul'' (sz_den a) (sz_den b)
    rw [Int.natAbs_mul, Nat.pow_succ]
    simp only [Int.natAbs_natCast]; omega
theorem sz_neg (a : Rat) : sz (-a) = sz a := by unfold sz; simp
theorem fits_z {i j : Int} {k m : Nat} (h1 : i.natAbs < 2 ^ k) (h2 : j.natAbs < 2 ^ m) (h : k + m ≤ 900000) : fits i j := by
  have l : ∀ {n k : Nat}, n < 2 ^ k → n.log2 ≤ k := fun {n k} h => by
    by_cases h0 : n = 0
    · subst h0; simp
    · have := (Nat.log2_lt h0).mpr h; omega
  have a := l h1
  have b := l h2
  show i.natAbs.log2 + j.natAbs.log2 < 1000000
  omega
theorem fitd_z {j : Int} {k : Nat} (h : j.natAbs < 2 ^ k) (hk : k ≤ 8999) : fitd j := fitd_of (Nat.lt_of_lt_of_le h (pw hk))
theorem beq_f {i j : Int} (h : i ≠ j) : (i == j) = false := beq_eq_false_iff_ne.mpr h
/-! the program's own -/
theorem gcd_fit {t b : Int} {k : Nat} (hb : b ≠ 0) (h : b.natAbs < 2 ^ k) (hk : k ≤ 8999) : fitd (Nat.gcd t.natAbs b.natAbs : Int) ∧ fitd (-(Nat.gcd t.natAbs b.natAbs : Int)) := by
  have h1 : Nat.gcd t.natAbs b.natAbs ≤ b.natAbs := Nat.le_of_dvd (by omega) (Nat.gcd_dvd_right _ _)
  exact ⟨fitd_z (k := k) (by rw [Int.natAbs_natCast]; omega) hk, fitd_z (k := k) (by rw [Int.natAbs_neg, Int.natAbs_natCast]; omega) hk⟩
theorem s_lowest {PG : Pg} [Has PG "lowest" f_lowest] {n : Nat} (hn : 1 ≤ n) (h : MH) (a b : Int) (hb : b ≠ 0) (hs : b.natAbs < 2 ^ 8999) : call PG n "lowest" [.int a, .int b] [] [] h = .ok (nq (Rat.divInt a b)) h := by
  rw [call_ge hn rfl]
  obtain ⟨f1, f2⟩ := gcd_fit (t := a) hb hs (Nat.le_refl _)
  have hg : (Nat.gcd a.natAbs b.natAbs : Int) ≠ 0 := by
    have := Nat.gcd_pos_of_pos_right a.natAbs (show 0 < b.natAbs by omega)
    omega
  have hg2 : ¬ (a = 0 ∧ b = 0) := fun q => hb q.2
  have el := low_nq a hb
  by_cases hn : b < 0
  · rw [if_pos hn] at el
    simp [body, q_ev_v, q_ev_non, q_ev_bl, q_ev_int, q_ev_str, q_ev_con, q_ev_tup, q_ev_lst, q_ev_bin, q_ev_neg, q_ev_not, q_ev_cmp, q_ev_chain, q_ev_and, q_ev_or, q_ev_ifx, q_ev_ix, q_ev_sl, q_ev_call, q_ev_blt, q_ev_isi, q_ev_met, q_ev_tupS, q_ev_lstS, q_ev_rev, q_ev_dnew, q_ev_dzip, q_ev_fnv, q_ev_calv, q_ev_val, q_evs_nil, q_evs_cons, q_evs_star, q_evD_nil, q_evD_cons, q_evAnd_cons, q_evAnd_cons2, q_evOr_cons, q_evOr_cons2, q_evIfs_none, q_evIfs_some, q_evo_none, q_evo_some, q_evi_ex, q_run1_ex, q_run1_set, q_run1_put, q_run1_aug, q_run1_augs, q_run1_ite, q_run1_whl, q_run1_for, q_run1_ret, q_run1_retN, q_run1_rais, q_run1_try, q_run1_brk, q_run1_cnt, q_run1_pas, q_runs_nil, q_runs_cons, q_runH_nil, q_runH_cons, tst, bltop, bindG, bindGs, cmpop, ofB, truthy, int1, int2, ltop, leop, binop, addop, subop, mulop, divop, modop, powop, ixop, items, litems, ditems, mkLst, mkDic, lenop, intop, isiop, tyOf, putop, src, wipeP, metop, metok, isLst, isDic, isStr, isLsq, appop, popL, getD, slop, revop, tupop, lstop, keyOf, inop, Aes.len, peq, scalP, eqF, isNon, isBl, f_lowest, hn, f1, f2, hg, hg2, hb]
    rw [end_rt, el]
  · rw [if_neg hn] at el
    simp [body, q_ev_v, q_ev_non, q_ev_bl, q_ev_int, q_ev_str, q_ev_con, q_ev_tup, q_ev_lst, q_ev_bin, q_ev_neg, q_ev_not, q_ev_cmp, q_ev_chain, q_ev_and, q_ev_or, q_ev_ifx, q_ev_ix, q_ev_sl, q_ev_call, q_ev_blt, q_ev_isi, q_ev_met, q_ev_tupS, q_ev_lstS, q_ev_rev, q_ev_dnew, q_ev_dzip, q_ev_fnv, q_ev_calv, q_ev_val, q_evs_nil, q_evs_cons, q_evs_star, q_evD_nil, q_evD_cons, q_evAnd_cons, q_evAnd_cons2, q_evOr_cons, q_evOr_cons2, q_evIfs_none, q_evIfs_some, q_evo_none, q_evo_some, q_evi_ex, q_run1_ex, q_run1_set, q_run1_put, q_run1_aug, q_run1_augs, q_run1_ite, q_run1_whl, q_run1_for, q_run1_ret, q_run1_retN, q_run1_rais, q_run1_try, q_run1_brk, q_run1_cnt, q_run1_pas, q_runs_nil, q_runs_cons, q_runH_nil, q_runH_cons, tst, bltop, bindG, bindGs, cmpop, ofB, truthy, int1, int2, ltop, leop, binop, addop, subop, mulop, divop, modop, powop, ixop, items, litems, ditems, mkLst, mkDic, lenop, intop, isiop, tyOf, putop, src, wipeP, metop, metok, isLst, isDic, isStr, isLsq, appop, popL, getD, slop, revop, tupop, lstop, keyOf, inop, Aes.len, peq, scalP, eqF, isNon, isBl, f_lowest, hn, f1, f2, hg, hg2, hb]
    rw [end_rt, el]
theorem peq_nq (h : MH) (p q : Rat) : peq h (nq p) (nq q) = some (decide (p = q)) := by
  have e : peq h (nq p) (nq q) = some (decide (p.num = q.num ∧ p.den = q.den)) := by
    unfold peq nq
    simp [scalP, peqD, toD, toDs, SeqAt.shaped, PyData.eqv, PyData.eqvAll, PyData.canLay0, PyData.canLayAll0, PyData.depth, PyData.depthAll]
    rw [Bool.eq_iff_iff]
    simp
    omega
  rw [e]
  congr 1
  rw [decide_eq_decide]
  exact ⟨fun h => Rat.ext h.1 h.2, fun h => by rw [h]; exact ⟨rfl, rfl⟩⟩
theorem s_sum {PG : Pg} [Has PG "sum_of_two" f_sum_of_two] [Has PG "lowest" f_lowest] {n : Nat} (hn : 2 ≤ n) (h : MH) (p q : Rat) (hz : sz p + sz q ≤ 8990) : call PG n "sum_of_two" [nq p, nq q] [] [] h = .ok (nq (p + q)) h := by
  rw [call_ge (by omega) rfl]
  have m1 : fits p.num q.den := fits_z (sz_num p) (by simpa using sz_den q) (by omega)
  have m2 : fits q.num p.den := fits_z (sz_num q) (by simpa using sz_den p) (by omega)
  have m3 : fits p.den q.den := fits_z (k := sz p) (m := sz q) (by simpa using sz_den p) (by simpa using sz_den q) (by omega)
  have hd : (p.den : Int) * q.den ≠ 0 := Int.mul_ne_zero (den_ne p) (den_ne q)
  have hs : ((p.den : Int) * q.den).natAbs < 2 ^ 8999 := by
    rw [Int.natAbs_mul]
    refine Nat.lt_of_lt_of_le (Nat.mul_lt_mul'' (show _ < 2 ^ sz p by simpa using sz_den p) (show _ < 2 ^ sz q by simpa using sz_den q)) ?_
    rw [← Nat.pow_add]; exact pw (by omega)
  have e := s_lowest (PG := PG) (n := n - 1) (by omega) h (p.num * q.den + q.num * p.den) (p.den * q.den) hd hs
  rw [← add_divInt] at e
  by_cases c1 : p.den = 1
  · by_cases c2 : q.den = 1
    · have e2 : nq (p + q) = .tup [.int (p.num + q.num), .int 1] := by
        have : p + q = ((p.num + q.num : Int) : Rat) := by
          rw [add_divInt, c1, c2]; simp [divInt_one]
        rw [this, nq_int]
      rw [e2]
      simp [body, q_ev_v, q_ev_non, q_ev_bl, q_ev_int, q_ev_str, q_ev_con, q_ev_tup, q_ev_lst, q_ev_bin, q_ev_neg, q_ev_not, q_ev_cmp, q_ev_chain, q_ev_and, q_ev_or, q_ev_ifx, q_ev_ix, q_ev_sl, q_ev_call, q_ev_blt, q_ev_isi, q_ev_met, q_ev_tupS, q_ev_lstS, q_ev_rev, q_ev_dnew, q_ev_dzip, q_ev_fnv, q_ev_calv, q_ev_val, q_evs_nil, q_evs_cons, q_evs_star, q_evD_nil, q_evD_cons, q_evAnd_cons, q_evAnd_cons2, q_evOr_cons, q_evOr_cons2, q_evIfs_none, q_evIfs_some, q_evo_none, q_evo_some, q_evi_ex, q_run1_ex, q_run1_set, q_run1_put, q_run1_aug, q_run1_augs, q_run1_ite, q_run1_whl, q_run1_for, q_run1_ret, q_run1_retN, q_run1_rais, q_run1_try, q_run1_brk, q_run1_cnt, q_run1_pas, q_runs_nil, q_runs_cons, q_runH_nil, q_runH_cons, tst, bltop, bindG, bindGs, cmpop, ofB, truthy, int1, int2, ltop, leop, binop, addop, subop, mulop, divop, modop, powop, ixop, items, litems, ditems, mkLst, mkDic, lenop, intop, isiop, tyOf, putop, src, wipeP, metop, metok, isLst, isDic, isStr, isLsq, appop, popL, getD, slop, revop, tupop, lstop, keyOf, inop, Aes.len, peq, scalP, eqF, isNon, isBl, f_sum_of_two, nq, c1, c2]
      exact end_rt
    · have c2' : ((q.den : Int) == 1) = false := beq_f (by omega)
      simp only [c1, Int.natCast_one, Int.one_mul, Int.mul_one] at e m2 m3
      simp [body, q_ev_v, q_ev_non, q_ev_bl, q_ev_int, q_ev_str, q_ev_con, q_ev_tup, q_ev_lst, q_ev_bin, q_ev_neg, q_ev_not, q_ev_cmp, q_ev_chain, q_ev_and, q_ev_or, q_ev_ifx, q_ev_ix, q_ev_sl, q_ev_call, q_ev_blt, q_ev_isi, q_ev_met, q_ev_tupS, q_ev_lstS, q_ev_rev, q_ev_dnew, q_ev_dzip, q_ev_fnv, q_ev_calv, q_ev_val, q_evs_nil, q_evs_cons, q_evs_star, q_evD_nil, q_evD_cons, q_evAnd_cons, q_evAnd_cons2, q_evOr_cons, q_evOr_cons2, q_evIfs_none, q_evIfs_some, q_evo_none, q_evo_some, q_evi_ex, q_run1_ex, q_run1_set, q_run1_put, q_run1_aug, q_run1_augs, q_run1_ite, q_run1_whl, q_run1_for, q_run1_ret, q_run1_retN, q_run1_rais, q_run1_try, q_run1_brk, q_run1_cnt, q_run1_pas, q_runs_nil, q_runs_cons, q_runH_nil, q_runH_cons, tst, bltop, bindG, bindGs, cmpop, ofB, truthy, int1, int2, ltop, leop, binop, addop, subop, mulop, divop, modop, powop, ixop, items, litems, ditems, mkLst, mkDic, lenop, intop, isiop, tyOf, putop, src, wipeP, metop, metok, isLst, isDic, isStr, isLsq, appop, popL, getD, slop, revop, tupop, lstop, keyOf, inop, Aes.len, peq, scalP, eqF, isNon, isBl, f_sum_of_two, nq, c1, c2', m1, m2, m3, e]
      exact end_rt
  · have c1' : ((p.den : Int) == 1) = false := beq_f (by omega)
    simp [body, q_ev_v, q_ev_non, q_ev_bl, q_ev_int, q_ev_str, q_ev_con, q_ev_tup, q_ev_lst, q_ev_bin, q_ev_neg, q_ev_not, q_ev_cmp, q_ev_chain, q_ev_and, q_ev_or, q_ev_ifx, q_ev_ix, q_ev_sl, q_ev_call, q_ev_blt, q_ev_isi, q_ev_met, q_ev_tupS, q_ev_lstS, q_ev_rev, q_ev_dnew, q_ev_dzip, q_ev_fnv, q_ev_calv, q_ev_val, q_evs_nil, q_evs_cons, q_evs_star, q_evD_nil, q_evD_cons, q_evAnd_cons, q_evAnd_cons2, q_evOr_cons, q_evOr_cons2, q_evIfs_none, q_evIfs_some, q_evo_none, q_evo_some, q_evi_ex, q_run1_ex, q_run1_set, q_run1_put, q_run1_aug, q_run1_augs, q_run1_ite, q_run1_whl, q_run1_for, q_run1_ret, q_run1_retN, q_run1_rais, q_run1_try, q_run1_brk, q_run1_cnt, q_run1_pas, q_runs_nil, q_runs_cons, q_runH_nil, q_runH_cons, tst, bltop, bindG, bindGs, cmpop, ofB, truthy, int1, int2, ltop, leop, binop, addop, subop, mulop, divop, modop, powop, ixop, items, litems, ditems, mkLst, mkDic, lenop, intop, isiop, tyOf, putop, src, wipeP, metop, metok, isLst, isDic, isStr, isLsq, appop, popL, getD, slop, revop, tupop, lstop, keyOf, inop, Aes.len, peq, scalP, eqF, isNon, isBl, f_sum_of_two, nq, c1', m1, m2, m3, e]
    exact end_rt
theorem s_product {PG : Pg} [Has PG "product" f_product] [Has PG "lowest" f_lowest] {n : Nat} (hn : 2 ≤ n) (h : MH) (p q : Rat) (hz : sz p + sz q ≤ 8990) : call PG n "product" [nq p, nq q] [] [] h = .ok (nq (p * q)) h := by
  rw [call_ge (by omega) rfl]
  have m1 : fits p.num q.num := fits_z (sz_num p) (sz_num q) (by omega)
  have m3 : fits p.den q.den := fits_z (k := sz p) (m := sz q) (by simpa using sz_den p) (by simpa using sz_den q) (by omega)
  have hd : (p.den : Int) * q.den ≠ 0 := Int.mul_ne_zero (den_ne p) (den_ne q)
  have hs : ((p.den : Int) * q.den).natAbs < 2 ^ 8999 := by
    rw [Int.natAbs_mul]
    refine Nat.lt_of_lt_of_le (Nat.mul_lt_mul'' (show _ < 2 ^ sz p by simpa using sz_den p) (show _ < 2 ^ sz q by simpa using sz_den q)) ?_
    rw [← Nat.pow_add]; exact pw (by omega)
  have e := s_lowest (PG := PG) (n := n - 1) (by omega) h (p.num * q.num) (p.den * q.den) hd hs
  rw [← mul_divInt] at e
  by_cases c1 : p.den = 1
  · by_cases c2 : q.den = 1
    · have e2 : nq (p * q) = .tup [.int (p.num * q.num), .int 1] := by
        have : p * q = ((p.num * q.num : Int) : Rat) := by
          rw [mul_divInt, c1, c2]; simp [divInt_one]
        rw [this, nq_int]
      rw [e2]
      simp [body, q_ev_v, q_ev_non, q_ev_bl, q_ev_int, q_ev_str, q_ev_con, q_ev_tup, q_ev_lst, q_ev_bin, q_ev_neg, q_ev_not, q_ev_cmp, q_ev_chain, q_ev_and, q_ev_or, q_ev_ifx, q_ev_ix, q_ev_sl, q_ev_call, q_ev_blt, q_ev_isi, q_ev_met, q_ev_tupS, q_ev_lstS, q_ev_rev, q_ev_dnew, q_ev_dzip, q_ev_fnv, q_ev_calv, q_ev_val, q_evs_nil, q_evs_cons, q_evs_star, q_evD_nil, q_evD_cons, q_evAnd_cons, q_evAnd_cons2, q_evOr_cons, q_evOr_cons2, q_evIfs_none, q_evIfs_some, q_evo_none, q_evo_some, q_evi_ex, q_run1_ex, q_run1_set, q_run1_put, q_run1_aug, q_run1_augs, q_run1_ite, q_run1_whl, q_run1_for, q_run1_ret, q_run1_retN, q_run1_rais, q_run1_try, q_run1_brk, q_run1_cnt, q_run1_pas, q_runs_nil, q_runs_cons, q_runH_nil, q_runH_cons, tst, bltop, bindG, bindGs, cmpop, ofB, truthy, int1, int2, ltop, leop, binop, addop, subop, mulop, divop, modop, powop, ixop, items, litems, ditems, mkLst, mkDic, lenop, intop, isiop, tyOf, putop, src, wipeP, metop, metok, isLst, isDic, isStr, isLsq, appop, popL, getD, slop, revop, tupop, lstop, keyOf, inop, Aes.len, peq, scalP, eqF, isNon, isBl, f_product, nq, c1, c2, m1]
      exact end_rt
    · have c2' : ((q.den : Int) == 1) = false := beq_f (by omega)
      simp only [c1, Int.natCast_one, Int.one_mul, Int.mul_one] at e m3
      simp [body, q_ev_v, q_ev_non, q_ev_bl, q_ev_int, q_ev_str, q_ev_con, q_ev_tup, q_ev_lst, q_ev_bin, q_ev_neg, q_ev_not, q_ev_cmp, q_ev_chain, q_ev_and, q_ev_or, q_ev_ifx, q_ev_ix, q_ev_sl, q_ev_call, q_ev_blt, q_ev_isi, q_ev_met, q_ev_tupS, q_ev_lstS, q_ev_rev, q_ev_dnew, q_ev_dzip, q_ev_fnv, q_ev_calv, q_ev_val, q_evs_nil, q_evs_cons, q_evs_star, q_evD_nil, q_evD_cons, q_evAnd_cons, q_evAnd_cons2, q_evOr_cons, q_evOr_cons2, q_evIfs_none, q_evIfs_some, q_evo_none, q_evo_some, q_evi_ex, q_run1_ex, q_run1_set, q_run1_put, q_run1_aug, q_run1_augs, q_run1_ite, q_run1_whl, q_run1_for, q_run1_ret, q_run1_retN, q_run1_rais, q_run1_try, q_run1_brk, q_run1_cnt, q_run1_pas, q_runs_nil, q_runs_cons, q_runH_nil, q_runH_cons, tst, bltop, bindG, bindGs, cmpop, ofB, truthy, int1, int2, ltop, leop, binop, addop, subop, mulop, divop, modop, powop, ixop, items, litems, ditems, mkLst, mkDic, lenop, intop, isiop, tyOf, putop, src, wipeP, metop, metok, isLst, isDic, isStr, isLsq, appop, popL, getD, slop, revop, tupop, lstop, keyOf, inop, Aes.len, peq, scalP, eqF, isNon, isBl, f_product, nq, c1, c2', m1, m3, e]
      exact end_rt
  · have c1' : ((p.den : Int) == 1) = false := beq_f (by omega)
    simp [body, q_ev_v, q_ev_non, q_ev_bl, q_ev_int, q_ev_str, q_ev_con, q_ev_tup, q_ev_lst, q_ev_bin, q_ev_neg, q_ev_not, q_ev_cmp, q_ev_chain, q_ev_and, q_ev_or, q_ev_ifx, q_ev_ix, q_ev_sl, q_ev_call, q_ev_blt, q_ev_isi, q_ev_met, q_ev_tupS, q_ev_lstS, q_ev_rev, q_ev_dnew, q_ev_dzip, q_ev_fnv, q_ev_calv, q_ev_val, q_evs_nil, q_evs_cons, q_evs_star, q_evD_nil, q_evD_cons, q_evAnd_cons, q_evAnd_cons2, q_evOr_cons, q_evOr_cons2, q_evIfs_none, q_evIfs_some, q_evo_none, q_evo_some, q_evi_ex, q_run1_ex, q_run1_set, q_run1_put, q_run1_aug, q_run1_augs, q_run1_ite, q_run1_whl, q_run1_for, q_run1_ret, q_run1_retN, q_run1_rais, q_run1_try, q_run1_brk, q_run1_cnt, q_run1_pas, q_runs_nil, q_runs_cons, q_runH_nil, q_runH_cons, tst, bltop, bindG, bindGs, cmpop, ofB, truthy, int1, int2, ltop, leop, binop, addop, subop, mulop, divop, modop, powop, ixop, items, litems, ditems, mkLst, mkDic, lenop, intop, isiop, tyOf, putop, src, wipeP, metop, metok, isLst, isDic, isStr, isLsq, appop, popL, getD, slop, revop, tupop, lstop, keyOf, inop, Aes.len, peq, scalP, eqF, isNon, isBl, f_product, nq, c1', m1, m3, e]
    exact end_rt
theorem s_is_integer {PG : Pg} [Has PG "is_integer" f_is_integer] {n : Nat} (hn : 1 ≤ n) (h : MH) (i : Int) : call PG n "is_integer" [.int i] [] [] h = .ok (.bl true) h := by
  rw [call_ge hn rfl]
  simp [body, q_ev_v, q_ev_non, q_ev_bl, q_ev_int, q_ev_str, q_ev_con, q_ev_tup, q_ev_lst, q_ev_bin, q_ev_neg, q_ev_not, q_ev_cmp, q_ev_chain, q_ev_and, q_ev_or, q_ev_ifx, q_ev_ix, q_ev_sl, q_ev_call, q_ev_blt, q_ev_isi, q_ev_met, q_ev_tupS, q_ev_lstS, q_ev_rev, q_ev_dnew, q_ev_dzip, q_ev_fnv, q_ev_calv, q_ev_val, q_evs_nil, q_evs_cons, q_evs_star, q_evD_nil, q_evD_cons, q_evAnd_cons, q_evAnd_cons2, q_evOr_cons, q_evOr_cons2, q_evIfs_none, q_evIfs_some, q_evo_none, q_evo_some, q_evi_ex, q_run1_ex, q_run1_set, q_run1_put, q_run1_aug, q_run1_augs, q_run1_ite, q_run1_whl, q_run1_for, q_run1_ret, q_run1_retN, q_run1_rais, q_run1_try, q_run1_brk, q_run1_cnt, q_run1_pas, q_runs_nil, q_runs_cons, q_runH_nil, q_runH_cons, tst, bltop, bindG, bindGs, cmpop, ofB, truthy, int1, int2, ltop, leop, binop, addop, subop, mulop, divop, modop, powop, ixop, items, litems, ditems, mkLst, mkDic, lenop, intop, isiop, tyOf, putop, src, wipeP, metop, metok, isLst, isDic, isStr, isLsq, appop, popL, getD, slop, revop, tupop, lstop, keyOf, inop, Aes.len, peq, scalP, eqF, isNon, isBl, f_is_integer, subB]
  exact end_rt
theorem s_is_pair {PG : Pg} [Has PG "is_pair" f_is_pair] {n : Nat} (hn : 1 ≤ n) (h : MH) (x y : PV) : call PG n "is_pair" [.tup [x, y]] [] [] h = .ok (.bl true) h := by
  rw [call_ge hn rfl]
  simp [body, q_ev_v, q_ev_non, q_ev_bl, q_ev_int, q_ev_str, q_ev_con, q_ev_tup, q_ev_lst, q_ev_bin, q_ev_neg, q_ev_not, q_ev_cmp, q_ev_chain, q_ev_and, q_ev_or, q_ev_ifx, q_ev_ix, q_ev_sl, q_ev_call, q_ev_blt, q_ev_isi, q_ev_met, q_ev_tupS, q_ev_lstS, q_ev_rev, q_ev_dnew, q_ev_dzip, q_ev_fnv, q_ev_calv, q_ev_val, q_evs_nil, q_evs_cons, q_evs_star, q_evD_nil, q_evD_cons, q_evAnd_cons, q_evAnd_cons2, q_evOr_cons, q_evOr_cons2, q_evIfs_none, q_evIfs_some, q_evo_none, q_evo_some, q_evi_ex, q_run1_ex, q_run1_set, q_run1_put, q_run1_aug, q_run1_augs, q_run1_ite, q_run1_whl, q_run1_for, q_run1_ret, q_run1_retN, q_run1_rais, q_run1_try, q_run1_brk, q_run1_cnt, q_run1_pas, q_runs_nil, q_runs_cons, q_runH_nil, q_runH_cons, tst, bltop, bindG, bindGs, cmpop, ofB, truthy, int1, int2, ltop, leop, binop, addop, subop, mulop, divop, modop, powop, ixop, items, litems, ditems, mkLst, mkDic, lenop, intop, isiop, tyOf, putop, src, wipeP, metop, metok, isLst, isDic, isStr, isLsq, appop, popL, getD, slop, revop, tupop, lstop, keyOf, inop, Aes.len, peq, scalP, eqF, isNon, isBl, f_is_pair, subB]
  exact end_rt
/-- a pair of integers -/
def pi (p : Int × Int) : PV := .tup [.int p.1, .int p.2]
instance (p : Int × Int) : Dt (pi p) := inferInstanceAs (Dt (.tup [.int p.1, .int p.2]))
theorem nq_pi (r : Rat) : nq r = pi (r.num, (r.den : Int)) := rfl
/-- in lowest terms -/
def lowP (p : Int × Int) : Bool := decide (0 < p.2) && decide (Nat.gcd p.1.natAbs p.2.natAbs = 1)
theorem lowP_nq (r : Rat) : lowP (r.num, (r.den : Int)) = true := by
  unfold lowP
  have h1 := r.den_pos
  have h2 := r.reduced
  simp only [Bool.and_eq_true, decide_eq_true_eq, Int.natAbs_natCast]
  exact ⟨by omega, h2⟩
theorem lowP_rat {p : Int × Int} (h : lowP p = true) : pi p = nq (Rat.divInt p.1 p.2) := by
  unfold lowP at h
  simp only [Bool.and_eq_true, decide_eq_true_eq] at h
  obtain ⟨h1, h2⟩ := h
  unfold pi nq
  rw [Rat.num_divInt, Rat.den_divInt, if_neg (by omega)]
  have hg : p.2.gcd p.1 = 1 := by rw [Int.gcd_comm]; exact h2
  rw [hg, Int.sign_eq_one_of_pos h1]
  simp
  omega
theorem lowP_iff {p : Int × Int} : nq (Rat.divInt p.1 p.2) = pi p ↔ lowP p = true := by
  constructor
  · intro h2
    unfold nq pi at h2
    simp only [PV.tup.injEq, List.cons.injEq, PV.int.injEq, and_true] at h2
    have := lowP_nq (Rat.divInt p.1 p.2)
    rw [h2.1, h2.2] at this
    exact this
  · intro h
    exact (lowP_rat h).symm
theorem peq_pi (h : MH) (p q : Int × Int) : peq h (pi p) (pi q) = some (decide (p = q)) := by
  obtain ⟨a, b⟩ := p
  obtain ⟨c, d⟩ := q
  unfold peq pi
  simp [scalP, peqD, toD, toDs, SeqAt.shaped, PyData.eqv, PyData.eqvAll, PyData.canLay0, PyData.canLayAll0, PyData.depth, PyData.depthAll]
  rw [Bool.eq_iff_iff]
  simp
theorem pi_inj {p q : Int × Int} : pi p = pi q ↔ p = q := by
  obtain ⟨a, b⟩ := p
  obtain ⟨c, d⟩ := q
  simp [pi]
theorem s_is_number {PG : Pg} [Has PG "is_number" f_is_number] [Has PG "is_integer" f_is_integer] [Has PG "is_pair" f_is_pair] [Has PG "lowest" f_lowest] {n : Nat} (hn : 2 ≤ n) (h : MH) (p : Int × Int) (hs : p.2.natAbs < 2 ^ 8999) : call PG n "is_number" [pi p] [] [] h = .ok (.bl (lowP p)) h := by
  rw [call_ge (by omega) rfl]
  have e1 := s_is_pair (PG := PG) (n := n - 1) (by omega) h (.int p.1) (.int p.2)
  have e2 := s_is_integer (PG := PG) (n := n - 1) (by omega) h p.1
  have e3 := s_is_integer (PG := PG) (n := n - 1) (by omega) h p.2
  by_cases h1 : p.2 < 1
  · have : lowP p = false := by
      unfold lowP
      rw [decide_eq_false (by omega)]; rfl
    rw [this]
    simp [body, q_ev_v, q_ev_non, q_ev_bl, q_ev_int, q_ev_str, q_ev_con, q_ev_tup, q_ev_lst, q_ev_bin, q_ev_neg, q_ev_not, q_ev_cmp, q_ev_chain, q_ev_and, q_ev_or, q_ev_ifx, q_ev_ix, q_ev_sl, q_ev_call, q_ev_blt, q_ev_isi, q_ev_met, q_ev_tupS, q_ev_lstS, q_ev_rev, q_ev_dnew, q_ev_dzip, q_ev_fnv, q_ev_calv, q_ev_val, q_evs_nil, q_evs_cons, q_evs_star, q_evD_nil, q_evD_cons, q_evAnd_cons, q_evAnd_cons2, q_evOr_cons, q_evOr_cons2, q_evIfs_none, q_evIfs_some, q_evo_none, q_evo_some, q_evi_ex, q_run1_ex, q_run1_set, q_run1_put, q_run1_aug, q_run1_augs, q_run1_ite, q_run1_whl, q_run1_for, q_run1_ret, q_run1_retN, q_run1_rais, q_run1_try, q_run1_brk, q_run1_cnt, q_run1_pas, q_runs_nil, q_runs_cons, q_runH_nil, q_runH_cons, tst, bltop, bindG, bindGs, cmpop, ofB, truthy, int1, int2, ltop, leop, binop, addop, subop, mulop, divop, modop, powop, ixop, items, litems, ditems, mkLst, mkDic, lenop, intop, isiop, tyOf, putop, src, wipeP, metop, metok, isLst, isDic, isStr, isLsq, appop, popL, getD, slop, revop, tupop, lstop, keyOf, inop, Aes.len, peq, scalP, eqF, isNon, isBl, f_is_number, pi, e1, e2, e3, h1]
    exact end_rt
  · have e5 := s_lowest (PG := PG) (n := n - 1) (by omega) h p.1 p.2 (by omega) hs
    have e4 := peq_pi h ((Rat.divInt p.1 p.2).num, ((Rat.divInt p.1 p.2).den : Int)) p
    have e6 : decide (((Rat.divInt p.1 p.2).num, ((Rat.divInt p.1 p.2).den : Int)) = p) = lowP p := by
      rw [Bool.eq_iff_iff, decide_eq_true_iff, ← lowP_iff, nq_pi, pi_inj]
    rw [e6] at e4
    rw [nq_pi] at e5
    unfold pi at e4 e5 ⊢
    simp [body, q_ev_v, q_ev_non, q_ev_bl, q_ev_int, q_ev_str, q_ev_con, q_ev_tup, q_ev_lst, q_ev_bin, q_ev_neg, q_ev_not, q_ev_cmp, q_ev_chain, q_ev_and, q_ev_or, q_ev_ifx, q_ev_ix, q_ev_sl, q_ev_call, q_ev_blt, q_ev_isi, q_ev_met, q_ev_tupS, q_ev_lstS, q_ev_rev, q_ev_dnew, q_ev_dzip, q_ev_fnv, q_ev_calv, q_ev_val, q_evs_nil, q_evs_cons, q_evs_star, q_evD_nil, q_evD_cons, q_evAnd_cons, q_evAnd_cons2, q_evOr_cons, q_evOr_cons2, q_evIfs_none, q_evIfs_some, q_evo_none, q_evo_some, q_evi_ex, q_run1_ex, q_run1_set, q_run1_put, q_run1_aug, q_run1_augs, q_run1_ite, q_run1_whl, q_run1_for, q_run1_ret, q_run1_retN, q_run1_rais, q_run1_try, q_run1_brk, q_run1_cnt, q_run1_pas, q_runs_nil, q_runs_cons, q_runH_nil, q_runH_cons, tst, bltop, bindG, bindGs, cmpop, ofB, truthy, int1, int2, ltop, leop, binop, addop, subop, mulop, divop, modop, powop, ixop, items, litems, ditems, mkLst, mkDic, lenop, intop, isiop, tyOf, putop, src, wipeP, metop, metok, isLst, isDic, isStr, isLsq, appop, popL, getD, slop, revop, tupop, lstop, keyOf, inop, Aes.len, peq, scalP, eqF, isNon, isBl, f_is_number, e1, e2, e3, h1, e5, -peq, e4]
    exact end_rt
theorem s_is_nq {PG : Pg} [Has PG "is_number" f_is_number] [Has PG "is_integer" f_is_integer] [Has PG "is_pair" f_is_pair] [Has PG "lowest" f_lowest] {n : Nat} (hn : 2 ≤ n) (h : MH) (r : Rat) (hs : sz r ≤ 8999) : call PG n "is_number" [nq r] [] [] h = .ok (.bl true) h := by
  have := s_is_number (PG := PG) hn h (r.num, (r.den : Int)) (by simpa using Nat.lt_of_lt_of_le (sz_den r) (pw hs))
  rw [lowP_nq] at this
  exact this
theorem s_check_nqs {PG : Pg} [Has PG "check_numbers" f_check_numbers] [Has PG "is_number" f_is_number] [Has PG "is_integer" f_is_integer] [Has PG "is_pair" f_is_pair] [Has PG "lowest" f_lowest] {n : Nat} (hn : 3 ≤ n) (h : MH) {v : PV} {l : List (Nat × List PV)} (rs : List Rat) (hv : src v h = some (l, rs.map nq)) (hc : chk l h) (hs : ∀ r ∈ rs, sz r ≤ 8999) : call PG n "check_numbers" [v] [] [] h = .ok .non h := by
  rw [call_ge (by omega) rfl]
  have el : ∃ w, run1 PG (call PG (n - 1)) l_check_numbers_1 [some v, none] h = .nx [some v, w] h := by
    have := for_fold (α := Rat) (g := nq) (l := l) (body := turnF PG (call PG (n - 1)) (.nm 1) (.cons (.ite (.not (.call "is_number" (.cons (.v 1) .nil) [] .nil)) (.cons (.rais "InvalidNumber" (.v 1) false) .nil) .nil) .nil))
      (E := fun (w : Option PV) => [some v, w]) (H := fun _ => h) (st := fun _ r => some (nq r)) (fun xs _ => ∀ r ∈ xs, sz r ≤ 8999) (fun _ => hc) (fun x xs s j => by
        have e := s_is_nq (PG := PG) (n := n - 1) (by omega) h x (j x List.mem_cons_self)
        exact ⟨by simp [body, q_ev_v, q_ev_non, q_ev_bl, q_ev_int, q_ev_str, q_ev_con, q_ev_tup, q_ev_lst, q_ev_bin, q_ev_neg, q_ev_not, q_ev_cmp, q_ev_chain, q_ev_and, q_ev_or, q_ev_ifx, q_ev_ix, q_ev_sl, q_ev_call, q_ev_blt, q_ev_isi, q_ev_met, q_ev_tupS, q_ev_lstS, q_ev_rev, q_ev_dnew, q_ev_dzip, q_ev_fnv, q_ev_calv, q_ev_val, q_evs_nil, q_evs_cons, q_evs_star, q_evD_nil, q_evD_cons, q_evAnd_cons, q_evAnd_cons2, q_evOr_cons, q_evOr_cons2, q_evIfs_none, q_evIfs_some, q_evo_none, q_evo_some, q_evi_ex, q_run1_ex, q_run1_set, q_run1_put, q_run1_aug, q_run1_augs, q_run1_ite, q_run1_whl, q_run1_for, q_run1_ret, q_run1_retN, q_run1_rais, q_run1_try, q_run1_brk, q_run1_cnt, q_run1_pas, q_runs_nil, q_runs_cons, q_runH_nil, q_runH_cons, tst, bltop, bindG, bindGs, cmpop, ofB, truthy, int1, int2, ltop, leop, binop, addop, subop, mulop, divop, modop, powop, ixop, items, litems, ditems, mkLst, mkDic, lenop, intop, isiop, tyOf, putop, src, wipeP, metop, metok, isLst, isDic, isStr, isLsq, appop, popL, getD, slop, revop, tupop, lstop, keyOf, inop, Aes.len, peq, scalP, eqF, isNon, isBl, turnF, e], fun y hy => j y (List.mem_cons_of_mem _ hy)⟩) rs none hs
    exact ⟨_, (for_run rfl (by simp [body, q_ev_v, q_ev_non, q_ev_bl, q_ev_int, q_ev_str, q_ev_con, q_ev_tup, q_ev_lst, q_ev_bin, q_ev_neg, q_ev_not, q_ev_cmp, q_ev_chain, q_ev_and, q_ev_or, q_ev_ifx, q_ev_ix, q_ev_sl, q_ev_call, q_ev_blt, q_ev_isi, q_ev_met, q_ev_tupS, q_ev_lstS, q_ev_rev, q_ev_dnew, q_ev_dzip, q_ev_fnv, q_ev_calv, q_ev_val, q_evs_nil, q_evs_cons, q_evs_star, q_evD_nil, q_evD_cons, q_evAnd_cons, q_evAnd_cons2, q_evOr_cons, q_evOr_cons2, q_evIfs_none, q_evIfs_some, q_evo_none, q_evo_some, q_evi_ex, q_run1_ex, q_run1_set, q_run1_put, q_run1_aug, q_run1_augs, q_run1_ite, q_run1_whl, q_run1_for, q_run1_ret, q_run1_retN, q_run1_rais, q_run1_try, q_run1_brk, q_run1_cnt, q_run1_pas, q_runs_nil, q_runs_cons, q_runH_nil, q_runH_cons, tst, bltop, bindG, bindGs, cmpop, ofB, truthy, int1, int2, ltop, leop, binop, addop, subop, mulop, divop, modop, powop, ixop, items, litems, ditems, mkLst, mkDic, lenop, intop, isiop, tyOf, putop, src, wipeP, metop, metok, isLst, isDic, isStr, isLsq, appop, popL, getD, slop, revop, tupop, lstop, keyOf, inop, Aes.len, peq, scalP, eqF, isNon, isBl, -src, hv])).trans this⟩
  obtain ⟨w, el⟩ := el
  simp [body, q_ev_v, q_ev_non, q_ev_bl, q_ev_int, q_ev_str, q_ev_con, q_ev_tup, q_ev_lst, q_ev_bin, q_ev_neg, q_ev_not, q_ev_cmp, q_ev_chain, q_ev_and, q_ev_or, q_ev_ifx, q_ev_ix, q_ev_sl, q_ev_call, q_ev_blt, q_ev_isi, q_ev_met, q_ev_tupS, q_ev_lstS, q_ev_rev, q_ev_dnew, q_ev_dzip, q_ev_fnv, q_ev_calv, q_ev_val, q_evs_nil, q_evs_cons, q_evs_star, q_evD_nil, q_evD_cons, q_evAnd_cons, q_evAnd_cons2, q_evOr_cons, q_evOr_cons2, q_evIfs_none, q_evIfs_some, q_evo_none, q_evo_some, q_evi_ex, q_run1_ex, q_run1_set, q_run1_put, q_run1_aug, q_run1_augs, q_run1_ite, q_run1_whl, q_run1_for, q_run1_ret, q_run1_retN, q_run1_rais, q_run1_try, q_run1_brk, q_run1_cnt, q_run1_pas, q_runs_nil, q_runs_cons, q_runH_nil, q_runH_cons, tst, bltop, bindG, bindGs, cmpop, ofB, truthy, int1, int2, ltop, leop, binop, addop, subop, mulop, divop, modop, powop, ixop, items, litems, ditems, mkLst, mkDic, lenop, intop, isiop, tyOf, putop, src, wipeP, metop, metok, isLst, isDic, isStr, isLsq, appop, popL, getD, slop, revop, tupop, lstop, keyOf, inop, Aes.len, peq, scalP, eqF, isNon, isBl, f_check_numbers, el]
  exact end_nx
/-! sums -/
def rsum (rs : List Rat) : Rat := rs.foldl (· + ·) 0
/-- how long a sum may get -/
def szs : List Rat → Nat
  | [] => 0
  | r :: rs => sz r + 1 + szs rs
theorem szs_app (a b : List Rat) : szs (a ++ b) = szs a + szs b := by
  induction a with
  | nil => simp [szs]
  | cons r a ih => simp [szs, ih]; omega
theorem szs_le {rs : List Rat} {k : Nat} (h : ∀ r ∈ rs, sz r ≤ k) : szs rs ≤ rs.length * (k + 1) := by
  induction rs with
  | nil => simp [szs]
  | cons r rs ih =>
    have h1 := h r List.mem_cons_self
    have h2 := ih fun x hx => h x (List.mem_cons_of_mem _ hx)
    simp only [szs, List.length_cons, Nat.add_mul]
    omega
theorem sz_fold {rs : List Rat} : ∀ {a : Rat}, sz (rs.foldl (· + ·) a) ≤ sz a + szs rs := by
  induction rs with
  | nil => intro a; simp [szs]
  | cons r rs ih =>
    intro a
    have h1 := ih (a := a + r)
    have h2 := sz_add a r
    simp only [List.foldl_cons, szs]
    omega
theorem sz_zero : sz 0 = 1 := by decide
theorem nq_zero : nq 0 = .tup [.int 0, .int 1] := rfl
theorem s_sum_all {PG : Pg} [Has PG "sum_of_all" f_sum_of_all] [Has PG "sum_of_two" f_sum_of_two] [Has PG "lowest" f_lowest] {n : Nat} (hn : 3 ≤ n) (h : MH) {v : PV} {l : List (Nat × List PV)} (rs : List Rat) (hv : src v h = some (l, rs.map nq)) (hc : chk l h) (hs : szs rs ≤ 8980) : call PG n "sum_of_all" [v] [] [] h = .ok (nq (rsum rs)) h := by
  rw [call_ge (by omega) rfl]
  have el : ∃ w, run1 PG (call PG (n - 1)) l_sum_of_all_1 [some v, some (nq 0), none] h = .nx [some v, some (nq (rsum rs)), w] h := by
    have := for_fold (α := Rat) (g := nq) (l := l) (body := turnF PG (call PG (n - 1)) (.nm 2) (.cons (.set (.nm 1) (.call "sum_of_two" (.cons (.v 1) (.cons (.v 2) .nil)) [] .nil)) .nil))
      (E := fun (s : Rat × Option PV) => [some v, some (nq s.1), s.2]) (H := fun _ => h) (st := fun s r => (s.1 + r, some (nq r))) (fun xs s => sz s.1 + szs xs ≤ 8985) (fun _ => hc) (fun x xs s j => by
        have j' : sz s.1 + (sz x + 1 + szs xs) ≤ 8985 := j
        have e := s_sum (PG := PG) (n := n - 1) (by omega) h s.1 x (by omega)
        have := sz_add s.1 x
        exact ⟨by simp [body, q_ev_v, q_ev_non, q_ev_bl, q_ev_int, q_ev_str, q_ev_con, q_ev_tup, q_ev_lst, q_ev_bin, q_ev_neg, q_ev_not, q_ev_cmp, q_ev_chain, q_ev_and, q_ev_or, q_ev_ifx, q_ev_ix, q_ev_sl, q_ev_call, q_ev_blt, q_ev_isi, q_ev_met, q_ev_tupS, q_ev_lstS, q_ev_rev, q_ev_dnew, q_ev_dzip, q_ev_fnv, q_ev_calv, q_ev_val, q_evs_nil, q_evs_cons, q_evs_star, q_evD_nil, q_evD_cons, q_evAnd_cons, q_evAnd_cons2, q_evOr_cons, q_evOr_cons2, q_evIfs_none, q_evIfs_some, q_evo_none, q_evo_some, q_evi_ex, q_run1_ex, q_run1_set, q_run1_put, q_run1_aug, q_run1_augs, q_run1_ite, q_run1_whl, q_run1_for, q_run1_ret, q_run1_retN, q_run1_rais, q_run1_try, q_run1_brk, q_run1_cnt, q_run1_pas, q_runs_nil, q_runs_cons, q_runH_nil, q_runH_cons, tst, bltop, bindG, bindGs, cmpop, ofB, truthy, int1, int2, ltop, leop, binop, addop, subop, mulop, divop, modop, powop, ixop, items, litems, ditems, mkLst, mkDic, lenop, intop, isiop, tyOf, putop, src, wipeP, metop, metok, isLst, isDic, isStr, isLsq, appop, popL, getD, slop, revop, tupop, lstop, keyOf, inop, Aes.len, peq, scalP, eqF, isNon, isBl, turnF, e], by show sz (s.1 + x) + szs xs ≤ 8985; omega⟩) rs (0, none) (by rw [sz_zero]; omega)
    have e2 : ∀ (rs : List Rat) (a : Rat) (w : Option PV), (rs.foldl (fun (s : Rat × Option PV) r => (s.1 + r, some (nq r))) (a, w)).1 = rs.foldl (· + ·) a := by
      intro rs
      induction rs with
      | nil => intro a w; rfl
      | cons r rs ih => intro a w; exact ih _ _
    rw [e2] at this
    exact ⟨_, (for_run rfl (by simp [body, q_ev_v, q_ev_non, q_ev_bl, q_ev_int, q_ev_str, q_ev_con, q_ev_tup, q_ev_lst, q_ev_bin, q_ev_neg, q_ev_not, q_ev_cmp, q_ev_chain, q_ev_and, q_ev_or, q_ev_ifx, q_ev_ix, q_ev_sl, q_ev_call, q_ev_blt, q_ev_isi, q_ev_met, q_ev_tupS, q_ev_lstS, q_ev_rev, q_ev_dnew, q_ev_dzip, q_ev_fnv, q_ev_calv, q_ev_val, q_evs_nil, q_evs_cons, q_evs_star, q_evD_nil, q_evD_cons, q_evAnd_cons, q_evAnd_cons2, q_evOr_cons, q_evOr_cons2, q_evIfs_none, q_evIfs_some, q_evo_none, q_evo_some, q_evi_ex, q_run1_ex, q_run1_set, q_run1_put, q_run1_aug, q_run1_augs, q_run1_ite, q_run1_whl, q_run1_for, q_run1_ret, q_run1_retN, q_run1_rais, q_run1_try, q_run1_brk, q_run1_cnt, q_run1_pas, q_runs_nil, q_runs_cons, q_runH_nil, q_runH_cons, tst, bltop, bindG, bindGs, cmpop, ofB, truthy, int1, int2, ltop, leop, binop, addop, subop, mulop, divop, modop, powop, ixop, items, litems, ditems, mkLst, mkDic, lenop, intop, isiop, tyOf, putop, src, wipeP, metop, metok, isLst, isDic, isStr, isLsq, appop, popL, getD, slop, revop, tupop, lstop, keyOf, inop, Aes.len, peq, scalP, eqF, isNon, isBl, -src, hv])).trans this⟩
  obtain ⟨w, el⟩ := el
  rw [nq_zero] at el
  simp [body, q_ev_v, q_ev_non, q_ev_bl, q_ev_int, q_ev_str, q_ev_con, q_ev_tup, q_ev_lst, q_ev_bin, q_ev_neg, q_ev_not, q_ev_cmp, q_ev_chain, q_ev_and, q_ev_or, q_ev_ifx, q_ev_ix, q_ev_sl, q_ev_call, q_ev_blt, q_ev_isi, q_ev_met, q_ev_tupS, q_ev_lstS, q_ev_rev, q_ev_dnew, q_ev_dzip, q_ev_fnv, q_ev_calv, q_ev_val, q_evs_nil, q_evs_cons, q_evs_star, q_evD_nil, q_evD_cons, q_evAnd_cons, q_evAnd_cons2, q_evOr_cons, q_evOr_cons2, q_evIfs_none, q_evIfs_some, q_evo_none, q_evo_some, q_evi_ex, q_run1_ex, q_run1_set, q_run1_put, q_run1_aug, q_run1_augs, q_run1_ite, q_run1_whl, q_run1_for, q_run1_ret, q_run1_retN, q_run1_rais, q_run1_try, q_run1_brk, q_run1_cnt, q_run1_pas, q_runs_nil, q_runs_cons, q_runH_nil, q_runH_cons, tst, bltop, bindG, bindGs, cmpop, ofB, truthy, int1, int2, ltop, leop, binop, addop, subop, mulop, divop, modop, powop, ixop, items, litems, ditems, mkLst, mkDic, lenop, intop, isiop, tyOf, putop, src, wipeP, metop, metok, isLst, isDic, isStr, isLsq, appop, popL, getD, slop, revop, tupop, lstop, keyOf, inop, Aes.len, peq, scalP, eqF, isNon, isBl, f_sum_of_all, el]
  exact end_rt
end Mx.FA

end

section
set_option linter.all false
set_option maxRecDepth 100000
set_option maxHeartbeats 4000000
set_option exponentiation.threshold 20000
namespace Mx.FA
open PySem PySem.Spec PyProof.Rows L2 Mx
/-! names -/
def LET : Str := "abcdefghijklmnopqrstuvwxyz"
/-- a sign that is a letter -/
def isLt (c : Nat) : Bool := !(Builtin.Str.occurrences LET ⟨#[c]⟩ 0 LET.length 1).isEmpty
def isNm (x : Str) : Bool := decide (1 ≤ x.length ∧ x.length ≤ 8) && x.cps.toList.all isLt
theorem isLt_az : ∀ c, 97 ≤ c → c ≤ 122 → isLt c = true := by
  have : ∀ c : Nat, c < 123 → 97 ≤ c → isLt c = true := by decide +kernel
  intro c h1 h2
  exact this c (by omega) h1
theorem src_str (x : Str) (h : MH) : src (.str x) h = some ([], x.cps.toList.map fun c => PV.str ⟨#[c]⟩) := rfl
theorem len_cps (x : Str) : x.length = x.cps.toList.length := by simp [Str.length]
theorem small {a b : Nat} (h : a ≤ b) (hb : b ≤ 1000000 := by decide) : a ≤ sizeLine := by rw [sizeLine_eq]; omega
theorem allB_map {α : Type} {f : α → Bool} : ∀ {l : List α}, allB (l.map fun a => PV.bl (f a)) = some (l.map f)
  | [] => rfl
  | a :: l => by rw [List.map_cons, allB, allB_map]; rfl
theorem all_id {α : Type} {f : α → Bool} {l : List α} : (l.map f).all id = l.all f := by rw [List.all_map]; rfl
theorem s_is_name {PG : Pg} [Has PG "is_name" f_is_name] [HasC PG "LETTERS" (.str "abcdefghijklmnopqrstuvwxyz")] [HasC PG "MOST_NAME" (.int 8)] {n : Nat} (hn : 1 ≤ n) (h : MH) (x : Str) (hx : x.length ≤ 1000000) : call PG n "is_name" [.str x] [] [] h = .ok (.bl (isNm x)) h := by
  rw [call_ge (by omega) rfl]
  have zl : x.length ≤ sizeLine := small hx (Nat.le_refl _)
  have ec : ev PG (call PG (n - 1)) c_is_name_1 [some (.str x), none] h = .ok (.lst (x.cps.toList.map fun c => PV.bl (isLt c))) h := by
    have := comp_mp (P := PG) (cl := call PG (n - 1)) (elt := .cmp .inn (.v 1) (.con "LETTERS")) (gt := .nm 1) (it := .ex (.v 0)) (ifs := .none) (own := [("sign", 1)]) (ρ := [some (.str x), none]) (h := h) (h' := h) (l := []) (g := fun c => PV.str ⟨#[c]⟩) (xs := x.cps.toList) (f := fun c => PV.bl (isLt c))
      (by simp [body, q_ev_v, q_ev_non, q_ev_bl, q_ev_int, q_ev_str, q_ev_con, q_ev_tup, q_ev_lst, q_ev_bin, q_ev_neg, q_ev_not, q_ev_cmp, q_ev_chain, q_ev_and, q_ev_or, q_ev_ifx, q_ev_ix, q_ev_sl, q_ev_call, q_ev_blt, q_ev_isi, q_ev_met, q_ev_tupS, q_ev_lstS, q_ev_rev, q_ev_dnew, q_ev_dzip, q_ev_fnv, q_ev_calv, q_ev_val, q_evs_nil, q_evs_cons, q_evs_star, q_evD_nil, q_evD_cons, q_evAnd_cons, q_evAnd_cons2, q_evOr_cons, q_evOr_cons2, q_evIfs_none, q_evIfs_some, q_evo_none, q_evo_some, q_evi_ex, q_run1_ex, q_run1_set, q_run1_put, q_run1_aug, q_run1_augs, q_run1_ite, q_run1_whl, q_run1_for, q_run1_ret, q_run1_retN, q_run1_rais, q_run1_try, q_run1_brk, q_run1_cnt, q_run1_pas, q_runs_nil, q_runs_cons, q_runH_nil, q_runH_cons, tst, bltop, bindG, bindGs, cmpop, ofB, truthy, int1, int2, ltop, leop, binop, addop, subop, mulop, divop, modop, powop, ixop, items, litems, ditems, mkLst, mkDic, lenop, intop, isiop, tyOf, putop, src, wipeP, metop, metok, isLst, isDic, isStr, isLsq, appop, popL, getD, slop, revop, tupop, lstop, keyOf, inop, Aes.len, peq, scalP, eqF, isNon, isBl, src_str, -src]) chk_nil (by rw [← len_cps]; exact zl) (fun c hc => by
        simp [body, q_ev_v, q_ev_non, q_ev_bl, q_ev_int, q_ev_str, q_ev_con, q_ev_tup, q_ev_lst, q_ev_bin, q_ev_neg, q_ev_not, q_ev_cmp, q_ev_chain, q_ev_and, q_ev_or, q_ev_ifx, q_ev_ix, q_ev_sl, q_ev_call, q_ev_blt, q_ev_isi, q_ev_met, q_ev_tupS, q_ev_lstS, q_ev_rev, q_ev_dnew, q_ev_dzip, q_ev_fnv, q_ev_calv, q_ev_val, q_evs_nil, q_evs_cons, q_evs_star, q_evD_nil, q_evD_cons, q_evAnd_cons, q_evAnd_cons2, q_evOr_cons, q_evOr_cons2, q_evIfs_none, q_evIfs_some, q_evo_none, q_evo_some, q_evi_ex, q_run1_ex, q_run1_set, q_run1_put, q_run1_aug, q_run1_augs, q_run1_ite, q_run1_whl, q_run1_for, q_run1_ret, q_run1_retN, q_run1_rais, q_run1_try, q_run1_brk, q_run1_cnt, q_run1_pas, q_runs_nil, q_runs_cons, q_runH_nil, q_runH_cons, tst, bltop, bindG, bindGs, cmpop, ofB, truthy, int1, int2, ltop, leop, binop, addop, subop, mulop, divop, modop, powop, ixop, items, litems, ditems, mkLst, mkDic, lenop, intop, isiop, tyOf, putop, src, wipeP, metop, metok, isLst, isDic, isStr, isLsq, appop, popL, getD, slop, revop, tupop, lstop, keyOf, inop, Aes.len, peq, scalP, eqF, isNon, isBl, turnC, HasC.eq (P := PG) (x := "LETTERS"), isLt, LET]) false
    exact this
  by_cases h1 : 1 ≤ x.length
  · by_cases h2 : x.length ≤ 8
    · have e : isNm x = x.cps.toList.all isLt := by unfold isNm; rw [decide_eq_true ⟨h1, h2⟩]; rfl
      rw [e]
      have i1 : (1 : Int) ≤ (x.length : Int) := by omega
      have i2 : (x.length : Int) ≤ 8 := by omega
      simp [body, q_ev_v, q_ev_non, q_ev_bl, q_ev_int, q_ev_str, q_ev_con, q_ev_tup, q_ev_lst, q_ev_bin, q_ev_neg, q_ev_not, q_ev_cmp, q_ev_chain, q_ev_and, q_ev_or, q_ev_ifx, q_ev_ix, q_ev_sl, q_ev_call, q_ev_blt, q_ev_isi, q_ev_met, q_ev_tupS, q_ev_lstS, q_ev_rev, q_ev_dnew, q_ev_dzip, q_ev_fnv, q_ev_calv, q_ev_val, q_evs_nil, q_evs_cons, q_evs_star, q_evD_nil, q_evD_cons, q_evAnd_cons, q_evAnd_cons2, q_evOr_cons, q_evOr_cons2, q_evIfs_none, q_evIfs_some, q_evo_none, q_evo_some, q_evi_ex, q_run1_ex, q_run1_set, q_run1_put, q_run1_aug, q_run1_augs, q_run1_ite, q_run1_whl, q_run1_for, q_run1_ret, q_run1_retN, q_run1_rais, q_run1_try, q_run1_brk, q_run1_cnt, q_run1_pas, q_runs_nil, q_runs_cons, q_runH_nil, q_runH_cons, tst, bltop, bindG, bindGs, cmpop, ofB, truthy, int1, int2, ltop, leop, binop, addop, subop, mulop, divop, modop, powop, ixop, items, litems, ditems, mkLst, mkDic, lenop, intop, isiop, tyOf, putop, src, wipeP, metop, metok, isLst, isDic, isStr, isLsq, appop, popL, getD, slop, revop, tupop, lstop, keyOf, inop, Aes.len, peq, scalP, eqF, isNon, isBl, f_is_name, subB, zl, HasC.eq (P := PG) (x := "MOST_NAME"), h1, h2, i1, i2, ec, boolsop, allB_map]
      exact end_rt
    · have e : isNm x = false := by unfold isNm; rw [decide_eq_false (by omega)]; rfl
      rw [e]
      have i1 : (1 : Int) ≤ (x.length : Int) := by omega
      have i2 : ¬ (x.length : Int) ≤ 8 := by omega
      simp [body, q_ev_v, q_ev_non, q_ev_bl, q_ev_int, q_ev_str, q_ev_con, q_ev_tup, q_ev_lst, q_ev_bin, q_ev_neg, q_ev_not, q_ev_cmp, q_ev_chain, q_ev_and, q_ev_or, q_ev_ifx, q_ev_ix, q_ev_sl, q_ev_call, q_ev_blt, q_ev_isi, q_ev_met, q_ev_tupS, q_ev_lstS, q_ev_rev, q_ev_dnew, q_ev_dzip, q_ev_fnv, q_ev_calv, q_ev_val, q_evs_nil, q_evs_cons, q_evs_star, q_evD_nil, q_evD_cons, q_evAnd_cons, q_evAnd_cons2, q_evOr_cons, q_evOr_cons2, q_evIfs_none, q_evIfs_some, q_evo_none, q_evo_some, q_evi_ex, q_run1_ex, q_run1_set, q_run1_put, q_run1_aug, q_run1_augs, q_run1_ite, q_run1_whl, q_run1_for, q_run1_ret, q_run1_retN, q_run1_rais, q_run1_try, q_run1_brk, q_run1_cnt, q_run1_pas, q_runs_nil, q_runs_cons, q_runH_nil, q_runH_cons, tst, bltop, bindG, bindGs, cmpop, ofB, truthy, int1, int2, ltop, leop, binop, addop, subop, mulop, divop, modop, powop, ixop, items, litems, ditems, mkLst, mkDic, lenop, intop, isiop, tyOf, putop, src, wipeP, metop, metok, isLst, isDic, isStr, isLsq, appop, popL, getD, slop, revop, tupop, lstop, keyOf, inop, Aes.len, peq, scalP, eqF, isNon, isBl, f_is_name, subB, zl, HasC.eq (P := PG) (x := "MOST_NAME"), h1, h2, i1, i2]
      exact end_rt
  · have e : isNm x = false := by unfold isNm; rw [decide_eq_false (by omega)]; rfl
    rw [e]
    have i1 : ¬ (1 : Int) ≤ (x.length : Int) := by omega
    simp [body, q_ev_v, q_ev_non, q_ev_bl, q_ev_int, q_ev_str, q_ev_con, q_ev_tup, q_ev_lst, q_ev_bin, q_ev_neg, q_ev_not, q_ev_cmp, q_ev_chain, q_ev_and, q_ev_or, q_ev_ifx, q_ev_ix, q_ev_sl, q_ev_call, q_ev_blt, q_ev_isi, q_ev_met, q_ev_tupS, q_ev_lstS, q_ev_rev, q_ev_dnew, q_ev_dzip, q_ev_fnv, q_ev_calv, q_ev_val, q_evs_nil, q_evs_cons, q_evs_star, q_evD_nil, q_evD_cons, q_evAnd_cons, q_evAnd_cons2, q_evOr_cons, q_evOr_cons2, q_evIfs_none, q_evIfs_some, q_evo_none, q_evo_some, q_evi_ex, q_run1_ex, q_run1_set, q_run1_put, q_run1_aug, q_run1_augs, q_run1_ite, q_run1_whl, q_run1_for, q_run1_ret, q_run1_retN, q_run1_rais, q_run1_try, q_run1_brk, q_run1_cnt, q_run1_pas, q_runs_nil, q_runs_cons, q_runH_nil, q_runH_cons, tst, bltop, bindG, bindGs, cmpop, ofB, truthy, int1, int2, ltop, leop, binop, addop, subop, mulop, divop, modop, powop, ixop, items, litems, ditems, mkLst, mkDic, lenop, intop, isiop, tyOf, putop, src, wipeP, metop, metok, isLst, isDic, isStr, isLsq, appop, popL, getD, slop, revop, tupop, lstop, keyOf, inop, Aes.len, peq, scalP, eqF, isNon, isBl, f_is_name, subB, zl, HasC.eq (P := PG) (x := "MOST_NAME"), h1, i1]
    exact end_rt
/-! rows in order -/
def ltS (x y : Str) : Bool := decide (x.cps.toList < y.cps.toList)
/-- a row of texts that ascends -/
def ascS (xs : List Str) : Bool := (List.range (xs.length - 1)).all fun k => ltS (xs.getD k "") (xs.getD (k + 1) "")
theorem atI_map {α β : Type} {f : α → β} {xs : List α} {i : Nat} (d : α) (h : i < xs.length) : atI (xs.map f) (i : Int) = some (f (xs.getD i d)) := by
  rw [atI_nat (by rw [List.length_map]; exact h), List.getElem_map, List.getD_eq_getElem?_getD, List.getElem?_eq_getElem h]
  rfl
theorem s_is_ascending {PG : Pg} [Has PG "is_ascending" f_is_ascending] {n : Nat} (hn : 1 ≤ n) (h : MH) {v : PV} (xs : List Str) (hv : items h v = some (xs.map .str)) (nd : ditems h v = none) (ns : isStr v = false) (hl : xs.length ≤ 1000000) : call PG n "is_ascending" [v] [] [] h = .ok (.bl (ascS xs)) h := by
  rw [call_ge (by omega) rfl]
  have el : ∀ i : Nat, i < xs.length → ixop v (.int i) h = .ok (.str (xs.getD i "")) h := fun i hi => by
    unfold ixop
    cases v <;> try (cases ns; done)
    all_goals (simp only [nd, hv]; rw [atI_map ("" : Str) hi])
  have en : lenop v h = .ok (.int xs.length) h := by
    unfold lenop
    cases v <;> try (cases ns; done)
    all_goals (simp only [hv, List.length_map])
  have ec : ev PG (call PG (n - 1)) c_is_ascending_1 [some v, none] h = .ok (.lst ((List.range (xs.length - 1)).map fun k => PV.bl (ltS (xs.getD k "") (xs.getD (k + 1) "")))) h := by
    have hr := rng1 (P := PG) (cl := call PG (n - 1)) (e := .bin .sub false (.blt .len false (.cons (.v 0) .nil)) (.int 1)) (ρ := [some v, none]) (h := h) (h' := h) (n := (xs.length : Int) - 1) (by simp [body, q_ev_v, q_ev_non, q_ev_bl, q_ev_int, q_ev_str, q_ev_con, q_ev_tup, q_ev_lst, q_ev_bin, q_ev_neg, q_ev_not, q_ev_cmp, q_ev_chain, q_ev_and, q_ev_or, q_ev_ifx, q_ev_ix, q_ev_sl, q_ev_call, q_ev_blt, q_ev_isi, q_ev_met, q_ev_tupS, q_ev_lstS, q_ev_rev, q_ev_dnew, q_ev_dzip, q_ev_fnv, q_ev_calv, q_ev_val, q_evs_nil, q_evs_cons, q_evs_star, q_evD_nil, q_evD_cons, q_evAnd_cons, q_evAnd_cons2, q_evOr_cons, q_evOr_cons2, q_evIfs_none, q_evIfs_some, q_evo_none, q_evo_some, q_evi_ex, q_run1_ex, q_run1_set, q_run1_put, q_run1_aug, q_run1_augs, q_run1_ite, q_run1_whl, q_run1_for, q_run1_ret, q_run1_retN, q_run1_rais, q_run1_try, q_run1_brk, q_run1_cnt, q_run1_pas, q_runs_nil, q_runs_cons, q_runH_nil, q_runH_cons, tst, bltop, bindG, bindGs, cmpop, ofB, truthy, int1, int2, ltop, leop, binop, addop, subop, mulop, divop, modop, powop, ixop, items, litems, ditems, mkLst, mkDic, lenop, intop, isiop, tyOf, putop, src, wipeP, metop, metok, isLst, isDic, isStr, isLsq, appop, popL, getD, slop, revop, tupop, lstop, keyOf, inop, Aes.len, peq, scalP, eqF, isNon, isBl, -lenop, en]) (by omega)
    have e0 : ((xs.length : Int) - 1).toNat = xs.length - 1 := by omega
    rw [e0] at hr
    refine comp_mp (P := PG) (cl := call PG (n - 1)) (l := []) (g := fun (k : Nat) => PV.int (k : Int)) (xs := List.range (xs.length - 1)) (f := fun k => PV.bl (ltS (xs.getD k "") (xs.getD (k + 1) ""))) hr chk_nil (by rw [List.length_range]; exact small (by omega) (Nat.le_refl _)) (fun k hk => ?_) false
    have hk := List.mem_range.mp hk
    have e1 := el k (by omega)
    have e2 := el (k + 1) (by omega)
    have e3 : ((k : Int) + 1) = ((k + 1 : Nat) : Int) := by omega
    simp [body, q_ev_v, q_ev_non, q_ev_bl, q_ev_int, q_ev_str, q_ev_con, q_ev_tup, q_ev_lst, q_ev_bin, q_ev_neg, q_ev_not, q_ev_cmp, q_ev_chain, q_ev_and, q_ev_or, q_ev_ifx, q_ev_ix, q_ev_sl, q_ev_call, q_ev_blt, q_ev_isi, q_ev_met, q_ev_tupS, q_ev_lstS, q_ev_rev, q_ev_dnew, q_ev_dzip, q_ev_fnv, q_ev_calv, q_ev_val, q_evs_nil, q_evs_cons, q_evs_star, q_evD_nil, q_evD_cons, q_evAnd_cons, q_evAnd_cons2, q_evOr_cons, q_evOr_cons2, q_evIfs_none, q_evIfs_some, q_evo_none, q_evo_some, q_evi_ex, q_run1_ex, q_run1_set, q_run1_put, q_run1_aug, q_run1_augs, q_run1_ite, q_run1_whl, q_run1_for, q_run1_ret, q_run1_retN, q_run1_rais, q_run1_try, q_run1_brk, q_run1_cnt, q_run1_pas, q_runs_nil, q_runs_cons, q_runH_nil, q_runH_cons, tst, bltop, bindG, bindGs, cmpop, ofB, truthy, int1, int2, ltop, leop, binop, addop, subop, mulop, divop, modop, powop, ixop, items, litems, ditems, mkLst, mkDic, lenop, intop, isiop, tyOf, putop, src, wipeP, metop, metok, isLst, isDic, isStr, isLsq, appop, popL, getD, slop, revop, tupop, lstop, keyOf, inop, Aes.len, peq, scalP, eqF, isNon, isBl, turnC, -ixop, e1, e3, e2, -Int.natCast_add, ltS]
  simp [body, q_ev_v, q_ev_non, q_ev_bl, q_ev_int, q_ev_str, q_ev_con, q_ev_tup, q_ev_lst, q_ev_bin, q_ev_neg, q_ev_not, q_ev_cmp, q_ev_chain, q_ev_and, q_ev_or, q_ev_ifx, q_ev_ix, q_ev_sl, q_ev_call, q_ev_blt, q_ev_isi, q_ev_met, q_ev_tupS, q_ev_lstS, q_ev_rev, q_ev_dnew, q_ev_dzip, q_ev_fnv, q_ev_calv, q_ev_val, q_evs_nil, q_evs_cons, q_evs_star, q_evD_nil, q_evD_cons, q_evAnd_cons, q_evAnd_cons2, q_evOr_cons, q_evOr_cons2, q_evIfs_none, q_evIfs_some, q_evo_none, q_evo_some, q_evi_ex, q_run1_ex, q_run1_set, q_run1_put, q_run1_aug, q_run1_augs, q_run1_ite, q_run1_whl, q_run1_for, q_run1_ret, q_run1_retN, q_run1_rais, q_run1_try, q_run1_brk, q_run1_cnt, q_run1_pas, q_runs_nil, q_runs_cons, q_runH_nil, q_runH_cons, tst, bltop, bindG, bindGs, cmpop, ofB, truthy, int1, int2, ltop, leop, binop, addop, subop, mulop, divop, modop, powop, ixop, items, litems, ditems, mkLst, mkDic, lenop, intop, isiop, tyOf, putop, src, wipeP, metop, metok, isLst, isDic, isStr, isLsq, appop, popL, getD, slop, revop, tupop, lstop, keyOf, inop, Aes.len, peq, scalP, eqF, isNon, isBl, f_is_ascending, ec, boolsop, allB_map, all_id]
  exact end_rt
theorem ltS_trans {a b c : Str} (h1 : ltS a b = true) (h2 : ltS b c = true) : ltS a c = true := by
  unfold ltS at *
  exact decide_eq_true (List.lt_trans (of_decide_eq_true h1) (of_decide_eq_true h2))
theorem ltS_irrefl (a : Str) : ltS a a = false := decide_eq_false (List.lt_irrefl _)
theorem ascS_iff : ∀ {xs : List Str}, ascS xs = true ↔ xs.Pairwise fun a b => ltS a b = true
  | [] => by simp [ascS]
  | [a] => by simp [ascS]
  | a :: b :: xs => by
    have ih := ascS_iff (xs := b :: xs)
    have e : ascS (a :: b :: xs) = (ltS a b && ascS (b :: xs)) := by
      unfold ascS
      have : (a :: b :: xs).length - 1 = (b :: xs).length - 1 + 1 := by simp
      rw [this, List.range_succ_eq_map, List.all_cons, List.all_map]
      simp [Function.comp_def]
    rw [e, Bool.and_eq_true, ih, List.pairwise_cons (a := a) (l := b :: xs)]
    constructor
    · rintro ⟨h1, h2⟩
      refine ⟨fun c hc => ?_, h2⟩
      rcases List.mem_cons.mp hc with rfl | hc
      · exact h1
      · exact ltS_trans h1 ((List.pairwise_cons.mp h2).1 c hc)
    · rintro ⟨h1, h2⟩
      exact ⟨h1 b List.mem_cons_self, h2⟩
theorem ascS_nodup {xs : List Str} (h : ascS xs = true) : xs.Nodup := by
  have := ascS_iff.mp h
  refine this.imp fun h e => ?_
  subst e
  rw [ltS_irrefl] at h; cases h
/-! terms and forms, as they may be bent -/
abbrev Rt := Str × (Int × Int)
abbrev Rf := (Int × Int) × List Rt
def rt (t : Rt) : PV := .tup [.str t.1, pi t.2]
def rf (f : Rf) : PV := .tup [pi f.1, .tup (f.2.map rt)]
instance (t : Rt) : Dt (rt t) := inferInstanceAs (Dt (.tup [.str t.1, pi t.2]))
instance (f : Rf) : Dt (rf f) := inferInstanceAs (Dt (.tup [pi f.1, .tup (f.2.map rt)]))
def isTm (t : Rt) : Bool := isNm t.1 && lowP t.2 && decide (t.2 ≠ (0, 1))
def isFm (f : Rf) : Bool := lowP f.1 && f.2.all isTm && ascS (f.2.map (·.1))
/-- what is not too long -/
def okT (t : Rt) : Prop := t.1.length ≤ 1000000 ∧ t.2.2.natAbs < 2 ^ 8999
def okF (f : Rf) : Prop := f.1.2.natAbs < 2 ^ 8999 ∧ f.2.length ≤ 1000000 ∧ ∀ t ∈ f.2, okT t
theorem con_zero {PG : Pg} [HasC PG "ZERO" (.tup [(.int 0), (.int 1)])] : PG.con "ZERO" = some (pi (0, 1)) := HasC.eq (P := PG) (x := "ZERO")
theorem s_is_term {PG : Pg} [Has PG "is_term" f_is_term] [Has PG "is_pair" f_is_pair] [Has PG "is_number" f_is_number] [Has PG "is_integer" f_is_integer] [Has PG "lowest" f_lowest] [Has PG "is_name" f_is_name] [HasC PG "LETTERS" (.str "abcdefghijklmnopqrstuvwxyz")] [HasC PG "MOST_NAME" (.int 8)] [HasC PG "ZERO" (.tup [(.int 0), (.int 1)])] {n : Nat} (hn : 3 ≤ n) (h : MH) (t : Rt) (ok : okT t) : call PG n "is_term" [rt t] [] [] h = .ok (.bl (isTm t)) h := by
  rw [call_ge (by omega) rfl]
  have e1 := s_is_pair (PG := PG) (n := n - 1) (by omega) h (.str t.1) (pi t.2)
  have e2 := s_is_name (PG := PG) (n := n - 1) (by omega) h t.1 ok.1
  have e3 := s_is_number (PG := PG) (n := n - 1) (by omega) h t.2 ok.2
  have e4 := peq_pi h t.2 (0, 1)
  unfold isTm rt
  cases c1 : isNm t.1 with
  | false =>
    rw [c1] at e2
    simp [body, q_ev_v, q_ev_non, q_ev_bl, q_ev_int, q_ev_str, q_ev_con, q_ev_tup, q_ev_lst, q_ev_bin, q_ev_neg, q_ev_not, q_ev_cmp, q_ev_chain, q_ev_and, q_ev_or, q_ev_ifx, q_ev_ix, q_ev_sl, q_ev_call, q_ev_blt, q_ev_isi, q_ev_met, q_ev_tupS, q_ev_lstS, q_ev_rev, q_ev_dnew, q_ev_dzip, q_ev_fnv, q_ev_calv, q_ev_val, q_evs_nil, q_evs_cons, q_evs_star, q_evD_nil, q_evD_cons, q_evAnd_cons, q_evAnd_cons2, q_evOr_cons, q_evOr_cons2, q_evIfs_none, q_evIfs_some, q_evo_none, q_evo_some, q_evi_ex, q_run1_ex, q_run1_set, q_run1_put, q_run1_aug, q_run1_augs, q_run1_ite, q_run1_whl, q_run1_for, q_run1_ret, q_run1_retN, q_run1_rais, q_run1_try, q_run1_brk, q_run1_cnt, q_run1_pas, q_runs_nil, q_runs_cons, q_runH_nil, q_runH_cons, tst, bltop, bindG, bindGs, cmpop, ofB, truthy, int1, int2, ltop, leop, binop, addop, subop, mulop, divop, modop, powop, ixop, items, litems, ditems, mkLst, mkDic, lenop, intop, isiop, tyOf, putop, src, wipeP, metop, metok, isLst, isDic, isStr, isLsq, appop, popL, getD, slop, revop, tupop, lstop, keyOf, inop, Aes.len, peq, scalP, eqF, isNon, isBl, f_is_term, e1, e2]
    exact end_rt
  | true =>
    rw [c1] at e2
    cases c2 : lowP t.2 with
    | false =>
      rw [c2] at e3
      simp [body, q_ev_v, q_ev_non, q_ev_bl, q_ev_int, q_ev_str, q_ev_con, q_ev_tup, q_ev_lst, q_ev_bin, q_ev_neg, q_ev_not, q_ev_cmp, q_ev_chain, q_ev_and, q_ev_or, q_ev_ifx, q_ev_ix, q_ev_sl, q_ev_call, q_ev_blt, q_ev_isi, q_ev_met, q_ev_tupS, q_ev_lstS, q_ev_rev, q_ev_dnew, q_ev_dzip, q_ev_fnv, q_ev_calv, q_ev_val, q_evs_nil, q_evs_cons, q_evs_star, q_evD_nil, q_evD_cons, q_evAnd_cons, q_evAnd_cons2, q_evOr_cons, q_evOr_cons2, q_evIfs_none, q_evIfs_some, q_evo_none, q_evo_some, q_evi_ex, q_run1_ex, q_run1_set, q_run1_put, q_run1_aug, q_run1_augs, q_run1_ite, q_run1_whl, q_run1_for, q_run1_ret, q_run1_retN, q_run1_rais, q_run1_try, q_run1_brk, q_run1_cnt, q_run1_pas, q_runs_nil, q_runs_cons, q_runH_nil, q_runH_cons, tst, bltop, bindG, bindGs, cmpop, ofB, truthy, int1, int2, ltop, leop, binop, addop, subop, mulop, divop, modop, powop, ixop, items, litems, ditems, mkLst, mkDic, lenop, intop, isiop, tyOf, putop, src, wipeP, metop, metok, isLst, isDic, isStr, isLsq, appop, popL, getD, slop, revop, tupop, lstop, keyOf, inop, Aes.len, peq, scalP, eqF, isNon, isBl, f_is_term, e1, e2, e3]
      exact end_rt
    | true =>
      rw [c2] at e3
      simp [body, q_ev_v, q_ev_non, q_ev_bl, q_ev_int, q_ev_str, q_ev_con, q_ev_tup, q_ev_lst, q_ev_bin, q_ev_neg, q_ev_not, q_ev_cmp, q_ev_chain, q_ev_and, q_ev_or, q_ev_ifx, q_ev_ix, q_ev_sl, q_ev_call, q_ev_blt, q_ev_isi, q_ev_met, q_ev_tupS, q_ev_lstS, q_ev_rev, q_ev_dnew, q_ev_dzip, q_ev_fnv, q_ev_calv, q_ev_val, q_evs_nil, q_evs_cons, q_evs_star, q_evD_nil, q_evD_cons, q_evAnd_cons, q_evAnd_cons2, q_evOr_cons, q_evOr_cons2, q_evIfs_none, q_evIfs_some, q_evo_none, q_evo_some, q_evi_ex, q_run1_ex, q_run1_set, q_run1_put, q_run1_aug, q_run1_augs, q_run1_ite, q_run1_whl, q_run1_for, q_run1_ret, q_run1_retN, q_run1_rais, q_run1_try, q_run1_brk, q_run1_cnt, q_run1_pas, q_runs_nil, q_runs_cons, q_runH_nil, q_runH_cons, tst, bltop, bindG, bindGs, cmpop, ofB, truthy, int1, int2, ltop, leop, binop, addop, subop, mulop, divop, modop, powop, ixop, items, litems, ditems, mkLst, mkDic, lenop, intop, isiop, tyOf, putop, src, wipeP, metop, metok, isLst, isDic, isStr, isLsq, appop, popL, getD, slop, revop, tupop, lstop, keyOf, inop, Aes.len, peq, scalP, eqF, isNon, isBl, f_is_term, e1, e2, e3, con_zero, -peq, e4]
      exact end_rt
theorem s_is_form {PG : Pg} [Has PG "is_form" f_is_form] [Has PG "is_pair" f_is_pair] [Has PG "is_ascending" f_is_ascending] [Has PG "is_number" f_is_number] [Has PG "is_integer" f_is_integer] [Has PG "lowest" f_lowest] [Has PG "is_term" f_is_term] [Has PG "is_name" f_is_name] [HasC PG "LETTERS" (.str "abcdefghijklmnopqrstuvwxyz")] [HasC PG "MOST_NAME" (.int 8)] [HasC PG "ZERO" (.tup [(.int 0), (.int 1)])] {n : Nat} (hn : 4 ≤ n) (h : MH) (f : Rf) (ok : okF f) : call PG n "is_form" [rf f] [] [] h = .ok (.bl (isFm f)) h := by
  rw [call_ge (by omega) rfl]
  have e1 := s_is_pair (PG := PG) (n := n - 1) (by omega) h (pi f.1) (.tup (f.2.map rt))
  have e2 := s_is_number (PG := PG) (n := n - 1) (by omega) h f.1 ok.1
  have zl : f.2.length ≤ sizeLine := small ok.2.1 (Nat.le_refl _)
  have ec1 : ev PG (call PG (n - 1)) c_is_form_1 [some (rf f), none, none, none] h = .ok (.lst (f.2.map fun t => PV.bl (isTm t))) h := by
    refine comp_mp (P := PG) (cl := call PG (n - 1)) (l := []) (g := rt) (xs := f.2) (f := fun t => PV.bl (isTm t)) (by simp [body, q_ev_v, q_ev_non, q_ev_bl, q_ev_int, q_ev_str, q_ev_con, q_ev_tup, q_ev_lst, q_ev_bin, q_ev_neg, q_ev_not, q_ev_cmp, q_ev_chain, q_ev_and, q_ev_or, q_ev_ifx, q_ev_ix, q_ev_sl, q_ev_call, q_ev_blt, q_ev_isi, q_ev_met, q_ev_tupS, q_ev_lstS, q_ev_rev, q_ev_dnew, q_ev_dzip, q_ev_fnv, q_ev_calv, q_ev_val, q_evs_nil, q_evs_cons, q_evs_star, q_evD_nil, q_evD_cons, q_evAnd_cons, q_evAnd_cons2, q_evOr_cons, q_evOr_cons2, q_evIfs_none, q_evIfs_some, q_evo_none, q_evo_some, q_evi_ex, q_run1_ex, q_run1_set, q_run1_put, q_run1_aug, q_run1_augs, q_run1_ite, q_run1_whl, q_run1_for, q_run1_ret, q_run1_retN, q_run1_rais, q_run1_try, q_run1_brk, q_run1_cnt, q_run1_pas, q_runs_nil, q_runs_cons, q_runH_nil, q_runH_cons, tst, bltop, bindG, bindGs, cmpop, ofB, truthy, int1, int2, ltop, leop, binop, addop, subop, mulop, divop, modop, powop, ixop, items, litems, ditems, mkLst, mkDic, lenop, intop, isiop, tyOf, putop, src, wipeP, metop, metok, isLst, isDic, isStr, isLsq, appop, popL, getD, slop, revop, tupop, lstop, keyOf, inop, Aes.len, peq, scalP, eqF, isNon, isBl, rf]) chk_nil zl (fun t ht => ?_) false
    have e := s_is_term (PG := PG) (n := n - 1) (by omega) h t (ok.2.2 t ht)
    simp [body, q_ev_v, q_ev_non, q_ev_bl, q_ev_int, q_ev_str, q_ev_con, q_ev_tup, q_ev_lst, q_ev_bin, q_ev_neg, q_ev_not, q_ev_cmp, q_ev_chain, q_ev_and, q_ev_or, q_ev_ifx, q_ev_ix, q_ev_sl, q_ev_call, q_ev_blt, q_ev_isi, q_ev_met, q_ev_tupS, q_ev_lstS, q_ev_rev, q_ev_dnew, q_ev_dzip, q_ev_fnv, q_ev_calv, q_ev_val, q_evs_nil, q_evs_cons, q_evs_star, q_evD_nil, q_evD_cons, q_evAnd_cons, q_evAnd_cons2, q_evOr_cons, q_evOr_cons2, q_evIfs_none, q_evIfs_some, q_evo_none, q_evo_some, q_evi_ex, q_run1_ex, q_run1_set, q_run1_put, q_run1_aug, q_run1_augs, q_run1_ite, q_run1_whl, q_run1_for, q_run1_ret, q_run1_retN, q_run1_rais, q_run1_try, q_run1_brk, q_run1_cnt, q_run1_pas, q_runs_nil, q_runs_cons, q_runH_nil, q_runH_cons, tst, bltop, bindG, bindGs, cmpop, ofB, truthy, int1, int2, ltop, leop, binop, addop, subop, mulop, divop, modop, powop, ixop, items, litems, ditems, mkLst, mkDic, lenop, intop, isiop, tyOf, putop, src, wipeP, metop, metok, isLst, isDic, isStr, isLsq, appop, popL, getD, slop, revop, tupop, lstop, keyOf, inop, Aes.len, peq, scalP, eqF, isNon, isBl, turnC, e]
  have ec2 : ev PG (call PG (n - 1)) c_is_form_2 [some (rf f), none, none, none] h = .ok (.lst (f.2.map fun t => PV.str t.1)) h := by
    refine comp_mp (P := PG) (cl := call PG (n - 1)) (l := []) (g := rt) (xs := f.2) (f := fun t => PV.str t.1) (by simp [body, q_ev_v, q_ev_non, q_ev_bl, q_ev_int, q_ev_str, q_ev_con, q_ev_tup, q_ev_lst, q_ev_bin, q_ev_neg, q_ev_not, q_ev_cmp, q_ev_chain, q_ev_and, q_ev_or, q_ev_ifx, q_ev_ix, q_ev_sl, q_ev_call, q_ev_blt, q_ev_isi, q_ev_met, q_ev_tupS, q_ev_lstS, q_ev_rev, q_ev_dnew, q_ev_dzip, q_ev_fnv, q_ev_calv, q_ev_val, q_evs_nil, q_evs_cons, q_evs_star, q_evD_nil, q_evD_cons, q_evAnd_cons, q_evAnd_cons2, q_evOr_cons, q_evOr_cons2, q_evIfs_none, q_evIfs_some, q_evo_none, q_evo_some, q_evi_ex, q_run1_ex, q_run1_set, q_run1_put, q_run1_aug, q_run1_augs, q_run1_ite, q_run1_whl, q_run1_for, q_run1_ret, q_run1_retN, q_run1_rais, q_run1_try, q_run1_brk, q_run1_cnt, q_run1_pas, q_runs_nil, q_runs_cons, q_runH_nil, q_runH_cons, tst, bltop, bindG, bindGs, cmpop, ofB, truthy, int1, int2, ltop, leop, binop, addop, subop, mulop, divop, modop, powop, ixop, items, litems, ditems, mkLst, mkDic, lenop, intop, isiop, tyOf, putop, src, wipeP, metop, metok, isLst, isDic, isStr, isLsq, appop, popL, getD, slop, revop, tupop, lstop, keyOf, inop, Aes.len, peq, scalP, eqF, isNon, isBl, rf]) chk_nil zl (fun t ht => ?_) false
    simp [body, q_ev_v, q_ev_non, q_ev_bl, q_ev_int, q_ev_str, q_ev_con, q_ev_tup, q_ev_lst, q_ev_bin, q_ev_neg, q_ev_not, q_ev_cmp, q_ev_chain, q_ev_and, q_ev_or, q_ev_ifx, q_ev_ix, q_ev_sl, q_ev_call, q_ev_blt, q_ev_isi, q_ev_met, q_ev_tupS, q_ev_lstS, q_ev_rev, q_ev_dnew, q_ev_dzip, q_ev_fnv, q_ev_calv, q_ev_val, q_evs_nil, q_evs_cons, q_evs_star, q_evD_nil, q_evD_cons, q_evAnd_cons, q_evAnd_cons2, q_evOr_cons, q_evOr_cons2, q_evIfs_none, q_evIfs_some, q_evo_none, q_evo_some, q_evi_ex, q_run1_ex, q_run1_set, q_run1_put, q_run1_aug, q_run1_augs, q_run1_ite, q_run1_whl, q_run1_for, q_run1_ret, q_run1_retN, q_run1_rais, q_run1_try, q_run1_brk, q_run1_cnt, q_run1_pas, q_runs_nil, q_runs_cons, q_runH_nil, q_runH_cons, tst, bltop, bindG, bindGs, cmpop, ofB, truthy, int1, int2, ltop, leop, binop, addop, subop, mulop, divop, modop, powop, ixop, items, litems, ditems, mkLst, mkDic, lenop, intop, isiop, tyOf, putop, src, wipeP, metop, metok, isLst, isDic, isStr, isLsq, appop, popL, getD, slop, revop, tupop, lstop, keyOf, inop, Aes.len, peq, scalP, eqF, isNon, isBl, turnC, rt]
  have e3 := s_is_ascending (PG := PG) (n := n - 1) (by omega) h (v := .lst (f.2.map fun t => PV.str t.1)) (f.2.map (·.1)) (by simp [items]) rfl rfl (by simpa using ok.2.1)
  unfold isFm
  unfold rf at ec1 ec2 ⊢
  cases c1 : lowP f.1 with
  | false =>
    rw [c1] at e2
    simp [body, q_ev_v, q_ev_non, q_ev_bl, q_ev_int, q_ev_str, q_ev_con, q_ev_tup, q_ev_lst, q_ev_bin, q_ev_neg, q_ev_not, q_ev_cmp, q_ev_chain, q_ev_and, q_ev_or, q_ev_ifx, q_ev_ix, q_ev_sl, q_ev_call, q_ev_blt, q_ev_isi, q_ev_met, q_ev_tupS, q_ev_lstS, q_ev_rev, q_ev_dnew, q_ev_dzip, q_ev_fnv, q_ev_calv, q_ev_val, q_evs_nil, q_evs_cons, q_evs_star, q_evD_nil, q_evD_cons, q_evAnd_cons, q_evAnd_cons2, q_evOr_cons, q_evOr_cons2, q_evIfs_none, q_evIfs_some, q_evo_none, q_evo_some, q_evi_ex, q_run1_ex, q_run1_set, q_run1_put, q_run1_aug, q_run1_augs, q_run1_ite, q_run1_whl, q_run1_for, q_run1_ret, q_run1_retN, q_run1_rais, q_run1_try, q_run1_brk, q_run1_cnt, q_run1_pas, q_runs_nil, q_runs_cons, q_runH_nil, q_runH_cons, tst, bltop, bindG, bindGs, cmpop, ofB, truthy, int1, int2, ltop, leop, binop, addop, subop, mulop, divop, modop, powop, ixop, items, litems, ditems, mkLst, mkDic, lenop, intop, isiop, tyOf, putop, src, wipeP, metop, metok, isLst, isDic, isStr, isLsq, appop, popL, getD, slop, revop, tupop, lstop, keyOf, inop, Aes.len, peq, scalP, eqF, isNon, isBl, f_is_form, subB, e1, e2]
    exact end_rt
  | true =>
    rw [c1] at e2
    cases c2 : f.2.all isTm with
    | false =>
      simp [body, q_ev_v, q_ev_non, q_ev_bl, q_ev_int, q_ev_str, q_ev_con, q_ev_tup, q_ev_lst, q_ev_bin, q_ev_neg, q_ev_not, q_ev_cmp, q_ev_chain, q_ev_and, q_ev_or, q_ev_ifx, q_ev_ix, q_ev_sl, q_ev_call, q_ev_blt, q_ev_isi, q_ev_met, q_ev_tupS, q_ev_lstS, q_ev_rev, q_ev_dnew, q_ev_dzip, q_ev_fnv, q_ev_calv, q_ev_val, q_evs_nil, q_evs_cons, q_evs_star, q_evD_nil, q_evD_cons, q_evAnd_cons, q_evAnd_cons2, q_evOr_cons, q_evOr_cons2, q_evIfs_none, q_evIfs_some, q_evo_none, q_evo_some, q_evi_ex, q_run1_ex, q_run1_set, q_run1_put, q_run1_aug, q_run1_augs, q_run1_ite, q_run1_whl, q_run1_for, q_run1_ret, q_run1_retN, q_run1_rais, q_run1_try, q_run1_brk, q_run1_cnt, q_run1_pas, q_runs_nil, q_runs_cons, q_runH_nil, q_runH_cons, tst, bltop, bindG, bindGs, cmpop, ofB, truthy, int1, int2, ltop, leop, binop, addop, subop, mulop, divop, modop, powop, ixop, items, litems, ditems, mkLst, mkDic, lenop, intop, isiop, tyOf, putop, src, wipeP, metop, metok, isLst, isDic, isStr, isLsq, appop, popL, getD, slop, revop, tupop, lstop, keyOf, inop, Aes.len, peq, scalP, eqF, isNon, isBl, f_is_form, subB, e1, e2, ec1, boolsop, allB_map, all_id, c2]
      exact end_rt
    | true =>
      simp [body, q_ev_v, q_ev_non, q_ev_bl, q_ev_int, q_ev_str, q_ev_con, q_ev_tup, q_ev_lst, q_ev_bin, q_ev_neg, q_ev_not, q_ev_cmp, q_ev_chain, q_ev_and, q_ev_or, q_ev_ifx, q_ev_ix, q_ev_sl, q_ev_call, q_ev_blt, q_ev_isi, q_ev_met, q_ev_tupS, q_ev_lstS, q_ev_rev, q_ev_dnew, q_ev_dzip, q_ev_fnv, q_ev_calv, q_ev_val, q_evs_nil, q_evs_cons, q_evs_star, q_evD_nil, q_evD_cons, q_evAnd_cons, q_evAnd_cons2, q_evOr_cons, q_evOr_cons2, q_evIfs_none, q_evIfs_some, q_evo_none, q_evo_some, q_evi_ex, q_run1_ex, q_run1_set, q_run1_put, q_run1_aug, q_run1_augs, q_run1_ite, q_run1_whl, q_run1_for, q_run1_ret, q_run1_retN, q_run1_rais, q_run1_try, q_run1_brk, q_run1_cnt, q_run1_pas, q_runs_nil, q_runs_cons, q_runH_nil, q_runH_cons, tst, bltop, bindG, bindGs, cmpop, ofB, truthy, int1, int2, ltop, leop, binop, addop, subop, mulop, divop, modop, powop, ixop, items, litems, ditems, mkLst, mkDic, lenop, intop, isiop, tyOf, putop, src, wipeP, metop, metok, isLst, isDic, isStr, isLsq, appop, popL, getD, slop, revop, tupop, lstop, keyOf, inop, Aes.len, peq, scalP, eqF, isNon, isBl, f_is_form, subB, e1, e2, ec1, boolsop, allB_map, all_id, c2, ec2, e3]
      exact end_rt
end Mx.FA

end

section
set_option linter.all false
set_option maxRecDepth 100000
set_option maxHeartbeats 4000000
set_option exponentiation.threshold 20000
namespace Mx.FA
open PySem PySem.Spec PyProof.Rows L2 Mx
/-! forms -/
abbrev Tm := Str × Rat
abbrev Form := Rat × List Tm
def tm (t : Tm) : PV := .tup [.str t.1, nq t.2]
def fm (f : Form) : PV := .tup [nq f.1, .tup (f.2.map tm)]
instance (t : Tm) : Dt (tm t) := inferInstanceAs (Dt (.tup [.str t.1, nq t.2]))
instance (f : Form) : Dt (fm f) := inferInstanceAs (Dt (.tup [nq f.1, .tup (f.2.map tm)]))
def rawT (t : Tm) : Rt := (t.1, (t.2.num, (t.2.den : Int)))
def rawF (f : Form) : Rf := ((f.1.num, (f.1.den : Int)), f.2.map rawT)
theorem tm_raw (t : Tm) : tm t = rt (rawT t) := rfl
theorem fm_raw (f : Form) : fm f = rf (rawF f) := by
  unfold fm rf rawF
  rw [List.map_map]; rfl
/-- a form that is one -/
structure VF (f : Form) : Prop where
  nm : ∀ t ∈ f.2, isNm t.1 = true
  nz : ∀ t ∈ f.2, t.2 ≠ 0
  up : ascS (f.2.map (·.1)) = true
/-- how long its numbers are -/
structure BF (k : Nat) (f : Form) : Prop where
  c : sz f.1 ≤ k
  t : ∀ t ∈ f.2, sz t.2 ≤ k
theorem BF.mono {k m : Nat} {f : Form} (b : BF k f) (h : k ≤ m) : BF m f := ⟨Nat.le_trans b.c h, fun t ht => Nat.le_trans (b.t t ht) h⟩
theorem isNm_len {x : Str} (h : isNm x = true) : x.length ≤ 8 := by
  unfold isNm at h
  simp only [Bool.and_eq_true, decide_eq_true_eq] at h
  exact h.1.2
theorem isFm_raw {f : Form} (v : VF f) : isFm (rawF f) = true := by
  unfold isFm rawF
  have h1 : lowP (f.1.num, (f.1.den : Int)) = true := lowP_nq _
  have h2 : (f.2.map rawT).all isTm = true := by
    rw [List.all_map, List.all_eq_true]
    intro t ht
    have a := v.nm t ht
    have b := v.nz t ht
    show isTm (rawT t) = true
    unfold isTm rawT
    rw [a, lowP_nq]
    simp only [Bool.true_and]
    refine decide_eq_true fun e => b ?_
    have e1 : t.2.num = 0 := congrArg Prod.fst e
    exact Rat.num_eq_zero.mp e1
  have h3 : (f.2.map rawT).map (·.1) = f.2.map (·.1) := by rw [List.map_map]; rfl
  simp only [h1, h2, h3, v.up, Bool.and_self]
theorem okF_raw {f : Form} (v : VF f) (b : BF 8999 f) (hl : f.2.length ≤ 1000000) : okF (rawF f) := by
  refine ⟨by show ((f.1.den : Int)).natAbs < _; simpa using Nat.lt_of_lt_of_le (sz_den f.1) (pw b.c), by unfold rawF; simpa using hl, fun t ht => ?_⟩
  unfold rawF at ht
  obtain ⟨u, hu, rfl⟩ := List.mem_map.mp ht
  exact ⟨by have := isNm_len (v.nm u hu); show u.1.length ≤ _; omega, by show ((u.2.den : Int)).natAbs < _; simpa using Nat.lt_of_lt_of_le (sz_den u.2) (pw (b.t u hu))⟩
theorem s_is_fm {PG : Pg} [Has PG "is_form" f_is_form] [Has PG "is_pair" f_is_pair] [Has PG "is_ascending" f_is_ascending] [Has PG "is_number" f_is_number] [Has PG "is_integer" f_is_integer] [Has PG "lowest" f_lowest] [Has PG "is_term" f_is_term] [Has PG "is_name" f_is_name] [HasC PG "LETTERS" (.str "abcdefghijklmnopqrstuvwxyz")] [HasC PG "MOST_NAME" (.int 8)] [HasC PG "ZERO" (.tup [(.int 0), (.int 1)])] {n : Nat} (hn : 4 ≤ n) (h : MH) (f : Form) (v : VF f) (b : BF 8999 f) (hl : f.2.length ≤ 1000000) : call PG n "is_form" [fm f] [] [] h = .ok (.bl true) h := by
  rw [fm_raw, s_is_form hn h _ (okF_raw v b hl), isFm_raw v]
theorem s_check_form {PG : Pg} [Has PG "check_form" f_check_form] [Has PG "is_form" f_is_form] [Has PG "is_pair" f_is_pair] [Has PG "is_ascending" f_is_ascending] [Has PG "is_number" f_is_number] [Has PG "is_integer" f_is_integer] [Has PG "lowest" f_lowest] [Has PG "is_term" f_is_term] [Has PG "is_name" f_is_name] [HasC PG "LETTERS" (.str "abcdefghijklmnopqrstuvwxyz")] [HasC PG "MOST_NAME" (.int 8)] [HasC PG "ZERO" (.tup [(.int 0), (.int 1)])] {n : Nat} (hn : 5 ≤ n) (h : MH) (f : Form) (v : VF f) (b : BF 8999 f) (hl : f.2.length ≤ 1000000) : call PG n "check_form" [fm f] [] [] h = .ok .non h := by
  rw [call_ge (by omega) rfl]
  have e := s_is_fm (PG := PG) (n := n - 1) (by omega) h f v b hl
  simp [body, q_ev_v, q_ev_non, q_ev_bl, q_ev_int, q_ev_str, q_ev_con, q_ev_tup, q_ev_lst, q_ev_bin, q_ev_neg, q_ev_not, q_ev_cmp, q_ev_chain, q_ev_and, q_ev_or, q_ev_ifx, q_ev_ix, q_ev_sl, q_ev_call, q_ev_blt, q_ev_isi, q_ev_met, q_ev_tupS, q_ev_lstS, q_ev_rev, q_ev_dnew, q_ev_dzip, q_ev_fnv, q_ev_calv, q_ev_val, q_evs_nil, q_evs_cons, q_evs_star, q_evD_nil, q_evD_cons, q_evAnd_cons, q_evAnd_cons2, q_evOr_cons, q_evOr_cons2, q_evIfs_none, q_evIfs_some, q_evo_none, q_evo_some, q_evi_ex, q_run1_ex, q_run1_set, q_run1_put, q_run1_aug, q_run1_augs, q_run1_ite, q_run1_whl, q_run1_for, q_run1_ret, q_run1_retN, q_run1_rais, q_run1_try, q_run1_brk, q_run1_cnt, q_run1_pas, q_runs_nil, q_runs_cons, q_runH_nil, q_runH_cons, tst, bltop, bindG, bindGs, cmpop, ofB, truthy, int1, int2, ltop, leop, binop, addop, subop, mulop, divop, modop, powop, ixop, items, litems, ditems, mkLst, mkDic, lenop, intop, isiop, tyOf, putop, src, wipeP, metop, metok, isLst, isDic, isStr, isLsq, appop, popL, getD, slop, revop, tupop, lstop, keyOf, inop, Aes.len, peq, scalP, eqF, isNon, isBl, f_check_form, e]
  exact end_nx
theorem s_check_name {PG : Pg} [Has PG "check_name" f_check_name] [Has PG "is_name" f_is_name] [HasC PG "LETTERS" (.str "abcdefghijklmnopqrstuvwxyz")] [HasC PG "MOST_NAME" (.int 8)] {n : Nat} (hn : 2 ≤ n) (h : MH) (x : Str) (hx : isNm x = true) : call PG n "check_name" [.str x] [] [] h = .ok .non h := by
  rw [call_ge (by omega) rfl]
  have e := s_is_name (PG := PG) (n := n - 1) (by omega) h x (by have := isNm_len hx; omega)
  rw [hx] at e
  simp [body, q_ev_v, q_ev_non, q_ev_bl, q_ev_int, q_ev_str, q_ev_con, q_ev_tup, q_ev_lst, q_ev_bin, q_ev_neg, q_ev_not, q_ev_cmp, q_ev_chain, q_ev_and, q_ev_or, q_ev_ifx, q_ev_ix, q_ev_sl, q_ev_call, q_ev_blt, q_ev_isi, q_ev_met, q_ev_tupS, q_ev_lstS, q_ev_rev, q_ev_dnew, q_ev_dzip, q_ev_fnv, q_ev_calv, q_ev_val, q_evs_nil, q_evs_cons, q_evs_star, q_evD_nil, q_evD_cons, q_evAnd_cons, q_evAnd_cons2, q_evOr_cons, q_evOr_cons2, q_evIfs_none, q_evIfs_some, q_evo_none, q_evo_some, q_evi_ex, q_run1_ex, q_run1_set, q_run1_put, q_run1_aug, q_run1_augs, q_run1_ite, q_run1_whl, q_run1_for, q_run1_ret, q_run1_retN, q_run1_rais, q_run1_try, q_run1_brk, q_run1_cnt, q_run1_pas, q_runs_nil, q_runs_cons, q_runH_nil, q_runH_cons, tst, bltop, bindG, bindGs, cmpop, ofB, truthy, int1, int2, ltop, leop, binop, addop, subop, mulop, divop, modop, powop, ixop, items, litems, ditems, mkLst, mkDic, lenop, intop, isiop, tyOf, putop, src, wipeP, metop, metok, isLst, isDic, isStr, isLsq, appop, popL, getD, slop, revop, tupop, lstop, keyOf, inop, Aes.len, peq, scalP, eqF, isNon, isBl, f_check_name, e]
  exact end_nx
/-! tables of numbers -/
abbrev Tab := List (Str × Rat)
def val (t : Tab) (k : Str) : Rat := (sget t k).getD 0
def addT (t : Tab) (p : Tm) : Tab := sput t p.1 (val t p.1 + p.2)
def tabOf (ts : List Tm) : Tab := ts.foldl addT []
def keysT (t : Tab) : List Str := (t.map (·.1)).mergeSort leS
def lain (c : Rat) (t : Tab) : Form := (c, ((keysT t).filter fun k => decide (val t k ≠ 0)).map fun k => (k, val t k))
def formOf (c : Rat) (ts : List Tm) : Form := lain c (tabOf ts)
def szl : List Tm → Nat
  | [] => 0
  | p :: ts => sz p.2 + 1 + szl ts
theorem szl_app (a b : List Tm) : szl (a ++ b) = szl a + szl b := by
  induction a with
  | nil => simp [szl]
  | cons r a ih => simp [szl, ih]; omega
theorem szl_le {ts : List Tm} {k : Nat} (h : ∀ t ∈ ts, sz t.2 ≤ k) : szl ts ≤ ts.length * (k + 1) := by
  induction ts with
  | nil => simp [szl]
  | cons r rs ih =>
    have h1 := h r List.mem_cons_self
    have h2 := ih fun x hx => h x (List.mem_cons_of_mem _ hx)
    simp only [szl, List.length_cons, Nat.add_mul]
    omega
theorem val_put (t : Tab) (k : Str) (v : Rat) (k' : Str) : val (sput t k v) k' = if k' = k then v else val t k' := by
  unfold val
  rw [sget_put]
  split <;> rfl
/-- a table whose numbers may grow by what is left -/
structure Tok (M : Nat) (t : Tab) (ts : List Tm) : Prop where
  z : ∀ k, sz (val t k) + szl ts ≤ M
  l : t.length + ts.length ≤ 63
theorem Tok.add {M : Nat} {t : Tab} {p : Tm} {ts : List Tm} (h : Tok M t (p :: ts)) : Tok M (addT t p) ts := by
  refine ⟨fun k => ?_, ?_⟩
  · unfold addT
    rw [val_put]
    have h1 := h.z k
    have h2 := h.z p.1
    have h3 := sz_add (val t p.1) p.2
    simp only [szl] at h1 h2
    split <;> omega
  · have := h.l
    have := sput_len_le (t := t) (k := p.1) (v := val t p.1 + p.2)
    rw [List.length_cons] at *
    unfold addT
    omega
theorem Tok.all {M : Nat} {ts : List Tm} : ∀ {t : Tab}, Tok M t ts → Tok M (ts.foldl addT t) [] := by
  induction ts with
  | nil => exact fun h => h
  | cons p ts ih => exact fun h => ih h.add
theorem sort_dic {r : Bool} {g : Rat → PV} {t : Tab} {m : Nat} {h : MH} (e : h[m]? = some (.dic (tb g t))) (hl : t.length ≤ 63) : sortop r (.ref m) h = mkLst r ((keysT t).map .str) h := by
  unfold sortop
  have e1 : litems h (.ref m) = none := by simp [litems, e]
  have e2 : ditems h (.ref m) = some (tb g t) := by simp [ditems, e]
  rw [e1]
  simp only [e2, tb_strs]
  rw [if_pos (by rw [List.length_map]; omega)]
  rfl
theorem sort_fdic {r : Bool} {g : Rat → PV} {t : Tab} {h : MH} (hl : t.length ≤ 63) : sortop r (.dic ((tb g t).map (·.1)) ((tb g t).map (·.2))) h = mkLst r ((keysT t).map .str) h := by
  unfold sortop
  have e1 : litems h (.dic ((tb g t).map (·.1)) ((tb g t).map (·.2))) = none := rfl
  have e2 : ditems h (.dic ((tb g t).map (·.1)) ((tb g t).map (·.2))) = some (tb g t) := by unfold ditems; simp only [tb_zip]
  rw [e1]
  simp only [e2, tb_strs]
  rw [if_pos (by rw [List.length_map]; omega)]
  rfl
theorem keysT_mem {t : Tab} {k : Str} : k ∈ keysT t ↔ k ∈ t.map (·.1) := by unfold keysT; rw [List.mem_mergeSort]
theorem sget_mem {α : Type} {t : List (Str × α)} {k : Str} (h : k ∈ t.map (·.1)) : ∃ v, sget t k = some v := by
  unfold sget
  obtain ⟨p, hp, rfl⟩ := List.mem_map.mp h
  cases e : t.find? fun q => decide (q.1 = p.1) with
  | none => exact absurd (List.find?_eq_none.mp e p hp) (by simp)
  | some q => exact ⟨q.2, rfl⟩
theorem keysT_len (t : Tab) : (keysT t).length = t.length := by unfold keysT; rw [List.length_mergeSort, List.length_map]
theorem con_zq {PG : Pg} [HasC PG "ZERO" (.tup [(.int 0), (.int 1)])] : PG.con "ZERO" = some (nq 0) := HasC.eq (P := PG) (x := "ZERO")
theorem tb_nil {α : Type} (g : α → PV) : tb g [] = [] := rfl
theorem kmerge_nil {α : Type} (kvs : List (Key × α)) : kmerge kvs [] = kvs := rfl
theorem s_form_of {PG : Pg} [Has PG "form_of" f_form_of] [Has PG "sum_of_two" f_sum_of_two] [Has PG "lowest" f_lowest] [HasC PG "ZERO" (.tup [(.int 0), (.int 1)])] {n : Nat} (hn : 3 ≤ n) (h : MH) {v : PV} (c : Rat) (ts : List Tm) (hv : ∀ e, src v (h ++ e) = some ([], ts.map tm)) (ok : Tok 8985 [] ts) : call PG n "form_of" [nq c, v] [] [] h = .ok (fm (formOf c ts)) h := by
  rw [call_ge (by omega) rfl]
  -- the loop
  have el : ∃ w w', run1 PG (call PG (n - 1)) l_form_of_1 [some (nq c), some v, some (.ref h.length), none, none] (h ++ [.dic []]) = .nx [some (nq c), some v, some (.ref h.length), w, w'] (h ++ [.dic (tb nq (tabOf ts))]) := by
    have := for_fold (α := Tm) (g := tm) (l := []) (body := turnF PG (call PG (n - 1)) (.tp (.cons (.nm 3) (.cons (.nm 4) .nil))) (.cons (.put (.v 2) (.v 3) (.call "sum_of_two" (.cons (.met .get false (.v 2) (.cons (.v 3) (.cons (.con "ZERO") .nil))) (.cons (.v 4) .nil)) [] .nil)) .nil))
      (E := fun (s : Tab × Option PV × Option PV) => [some (nq c), some v, some (.ref h.length), s.2.1, s.2.2]) (H := fun s => h ++ [.dic (tb nq s.1)]) (st := fun s p => (addT s.1 p, some (.str p.1), some (nq p.2))) (fun xs s => Tok 8985 s.1 xs) (fun _ => chk_nil) (fun x xs s j => by
        have hz := j.z x.1
        simp only [szl] at hz
        have e := s_sum (PG := PG) (n := n - 1) (by omega) (h ++ [.dic (tb nq s.1)]) (val s.1 x.1) x.2 (by omega)
        have eg : (kget (tb nq s.1) (.inr x.1)).getD (nq 0) = nq (val s.1 x.1) := by
          rw [kget_tb]; unfold val; cases sget s.1 x.1 <;> rfl
        have hl := j.l
        have zl : (tb nq s.1).length < sizeLine := by rw [tb_len, sizeLine_eq]; omega
        refine ⟨?_, j.add⟩
        simp [body, q_ev_v, q_ev_non, q_ev_bl, q_ev_int, q_ev_str, q_ev_con, q_ev_tup, q_ev_lst, q_ev_bin, q_ev_neg, q_ev_not, q_ev_cmp, q_ev_chain, q_ev_and, q_ev_or, q_ev_ifx, q_ev_ix, q_ev_sl, q_ev_call, q_ev_blt, q_ev_isi, q_ev_met, q_ev_tupS, q_ev_lstS, q_ev_rev, q_ev_dnew, q_ev_dzip, q_ev_fnv, q_ev_calv, q_ev_val, q_evs_nil, q_evs_cons, q_evs_star, q_evD_nil, q_evD_cons, q_evAnd_cons, q_evAnd_cons2, q_evOr_cons, q_evOr_cons2, q_evIfs_none, q_evIfs_some, q_evo_none, q_evo_some, q_evi_ex, q_run1_ex, q_run1_set, q_run1_put, q_run1_aug, q_run1_augs, q_run1_ite, q_run1_whl, q_run1_for, q_run1_ret, q_run1_retN, q_run1_rais, q_run1_try, q_run1_brk, q_run1_cnt, q_run1_pas, q_runs_nil, q_runs_cons, q_runH_nil, q_runH_cons, tst, bltop, bindG, bindGs, cmpop, ofB, truthy, int1, int2, ltop, leop, binop, addop, subop, mulop, divop, modop, powop, ixop, items, litems, ditems, mkLst, mkDic, lenop, intop, isiop, tyOf, putop, src, wipeP, metop, metok, isLst, isDic, isStr, isLsq, appop, popL, getD, slop, revop, tupop, lstop, keyOf, inop, Aes.len, peq, scalP, eqF, isNon, isBl, turnF, tm, isDic, con_zq, eg, e, zl, kput_tb, addT]) ts ([], none, none) ok
    have e2 : ∀ (ts : List Tm) (t : Tab) (w w' : Option PV), (ts.foldl (fun (s : Tab × Option PV × Option PV) p => (addT s.1 p, some (.str p.1), some (nq p.2))) (t, w, w')).1 = ts.foldl addT t := by
      intro ts
      induction ts with
      | nil => intro t w w'; rfl
      | cons p ts ih => intro t w w'; exact ih _ _ _
    rw [e2] at this
    exact ⟨_, _, (for_run rfl (by simp [body, q_ev_v, q_ev_non, q_ev_bl, q_ev_int, q_ev_str, q_ev_con, q_ev_tup, q_ev_lst, q_ev_bin, q_ev_neg, q_ev_not, q_ev_cmp, q_ev_chain, q_ev_and, q_ev_or, q_ev_ifx, q_ev_ix, q_ev_sl, q_ev_call, q_ev_blt, q_ev_isi, q_ev_met, q_ev_tupS, q_ev_lstS, q_ev_rev, q_ev_dnew, q_ev_dzip, q_ev_fnv, q_ev_calv, q_ev_val, q_evs_nil, q_evs_cons, q_evs_star, q_evD_nil, q_evD_cons, q_evAnd_cons, q_evAnd_cons2, q_evOr_cons, q_evOr_cons2, q_evIfs_none, q_evIfs_some, q_evo_none, q_evo_some, q_evi_ex, q_run1_ex, q_run1_set, q_run1_put, q_run1_aug, q_run1_augs, q_run1_ite, q_run1_whl, q_run1_for, q_run1_ret, q_run1_retN, q_run1_rais, q_run1_try, q_run1_brk, q_run1_cnt, q_run1_pas, q_runs_nil, q_runs_cons, q_runH_nil, q_runH_cons, tst, bltop, bindG, bindGs, cmpop, ofB, truthy, int1, int2, ltop, leop, binop, addop, subop, mulop, divop, modop, powop, ixop, items, litems, ditems, mkLst, mkDic, lenop, intop, isiop, tyOf, putop, src, wipeP, metop, metok, isLst, isDic, isStr, isLsq, appop, popL, getD, slop, revop, tupop, lstop, keyOf, inop, Aes.len, peq, scalP, eqF, isNon, isBl, -src, hv, tb_nil])).trans this⟩
  obtain ⟨w, w', el⟩ := el
  have fin := ok.all
  have fl : (tabOf ts).length ≤ 63 := by have := fin.l; unfold tabOf; simpa using this
  -- the row
  have ec : ev PG (call PG (n - 1)) c_form_of_2 [some (nq c), some v, some (.ref h.length), w, w'] (h ++ [.dic (tb nq (tabOf ts))]) = .ok (.lst ((formOf c ts).2.map tm)) (h ++ [.dic (tb nq (tabOf ts))]) := by
    have e1 : sortop false (.ref h.length) (h ++ [.dic (tb nq (tabOf ts))]) = .ok (.lst ((keysT (tabOf ts)).map .str)) (h ++ [.dic (tb nq (tabOf ts))]) := by
      rw [sort_dic (g := nq) (t := tabOf ts) (by simp) fl]; rfl
    have := comp_fl (P := PG) (cl := call PG (n - 1)) (elt := .tup (.cons (.v 3) (.cons (.ix (.v 2) (.v 3)) .nil))) (gt := .nm 3) (it := .ex (.blt .sorted false (.cons (.v 2) .nil))) (ifs := .some (.cmp .ne (.ix (.v 2) (.v 3)) (.con "ZERO"))) (own := [("name", 3)]) (ρ := [some (nq c), some v, some (.ref h.length), w, w']) (h := h ++ [.dic (tb nq (tabOf ts))]) (h' := h ++ [.dic (tb nq (tabOf ts))]) (l := []) (g := PV.str) (xs := keysT (tabOf ts)) (p := fun k => decide (val (tabOf ts) k ≠ 0)) (f := fun k => tm (k, val (tabOf ts) k))
      (by simp [body, q_ev_v, q_ev_non, q_ev_bl, q_ev_int, q_ev_str, q_ev_con, q_ev_tup, q_ev_lst, q_ev_bin, q_ev_neg, q_ev_not, q_ev_cmp, q_ev_chain, q_ev_and, q_ev_or, q_ev_ifx, q_ev_ix, q_ev_sl, q_ev_call, q_ev_blt, q_ev_isi, q_ev_met, q_ev_tupS, q_ev_lstS, q_ev_rev, q_ev_dnew, q_ev_dzip, q_ev_fnv, q_ev_calv, q_ev_val, q_evs_nil, q_evs_cons, q_evs_star, q_evD_nil, q_evD_cons, q_evAnd_cons, q_evAnd_cons2, q_evOr_cons, q_evOr_cons2, q_evIfs_none, q_evIfs_some, q_evo_none, q_evo_some, q_evi_ex, q_run1_ex, q_run1_set, q_run1_put, q_run1_aug, q_run1_augs, q_run1_ite, q_run1_whl, q_run1_for, q_run1_ret, q_run1_retN, q_run1_rais, q_run1_try, q_run1_brk, q_run1_cnt, q_run1_pas, q_runs_nil, q_runs_cons, q_runH_nil, q_runH_cons, tst, bltop, bindG, bindGs, cmpop, ofB, truthy, int1, int2, ltop, leop, binop, addop, subop, mulop, divop, modop, powop, ixop, items, litems, ditems, mkLst, mkDic, lenop, intop, isiop, tyOf, putop, src, wipeP, metop, metok, isLst, isDic, isStr, isLsq, appop, popL, getD, slop, revop, tupop, lstop, keyOf, inop, Aes.len, peq, scalP, eqF, isNon, isBl, e1]) chk_nil (by rw [keysT_len]; exact small (by omega) (Nat.le_refl _)) (fun k hk => by
        obtain ⟨x, hx⟩ := sget_mem (keysT_mem.mp hk)
        have e3 : kget (tb nq (tabOf ts)) (.inr k) = some (nq (val (tabOf ts) k)) := by rw [kget_tb]; unfold val; rw [hx]; rfl
        have e4 := peq_nq (h ++ [.dic (tb nq (tabOf ts))]) (val (tabOf ts) k) 0
        by_cases z : val (tabOf ts) k = 0
        · rw [z] at e3 e4
          simp [body, q_ev_v, q_ev_non, q_ev_bl, q_ev_int, q_ev_str, q_ev_con, q_ev_tup, q_ev_lst, q_ev_bin, q_ev_neg, q_ev_not, q_ev_cmp, q_ev_chain, q_ev_and, q_ev_or, q_ev_ifx, q_ev_ix, q_ev_sl, q_ev_call, q_ev_blt, q_ev_isi, q_ev_met, q_ev_tupS, q_ev_lstS, q_ev_rev, q_ev_dnew, q_ev_dzip, q_ev_fnv, q_ev_calv, q_ev_val, q_evs_nil, q_evs_cons, q_evs_star, q_evD_nil, q_evD_cons, q_evAnd_cons, q_evAnd_cons2, q_evOr_cons, q_evOr_cons2, q_evIfs_none, q_evIfs_some, q_evo_none, q_evo_some, q_evi_ex, q_run1_ex, q_run1_set, q_run1_put, q_run1_aug, q_run1_augs, q_run1_ite, q_run1_whl, q_run1_for, q_run1_ret, q_run1_retN, q_run1_rais, q_run1_try, q_run1_brk, q_run1_cnt, q_run1_pas, q_runs_nil, q_runs_cons, q_runH_nil, q_runH_cons, tst, bltop, bindG, bindGs, cmpop, ofB, truthy, int1, int2, ltop, leop, binop, addop, subop, mulop, divop, modop, powop, ixop, items, litems, ditems, mkLst, mkDic, lenop, intop, isiop, tyOf, putop, src, wipeP, metop, metok, isLst, isDic, isStr, isLsq, appop, popL, getD, slop, revop, tupop, lstop, keyOf, inop, Aes.len, peq, scalP, eqF, isNon, isBl, turnC, e3, con_zq, -peq, e4, z]
        · rw [decide_eq_false z] at e4
          simp [body, q_ev_v, q_ev_non, q_ev_bl, q_ev_int, q_ev_str, q_ev_con, q_ev_tup, q_ev_lst, q_ev_bin, q_ev_neg, q_ev_not, q_ev_cmp, q_ev_chain, q_ev_and, q_ev_or, q_ev_ifx, q_ev_ix, q_ev_sl, q_ev_call, q_ev_blt, q_ev_isi, q_ev_met, q_ev_tupS, q_ev_lstS, q_ev_rev, q_ev_dnew, q_ev_dzip, q_ev_fnv, q_ev_calv, q_ev_val, q_evs_nil, q_evs_cons, q_evs_star, q_evD_nil, q_evD_cons, q_evAnd_cons, q_evAnd_cons2, q_evOr_cons, q_evOr_cons2, q_evIfs_none, q_evIfs_some, q_evo_none, q_evo_some, q_evi_ex, q_run1_ex, q_run1_set, q_run1_put, q_run1_aug, q_run1_augs, q_run1_ite, q_run1_whl, q_run1_for, q_run1_ret, q_run1_retN, q_run1_rais, q_run1_try, q_run1_brk, q_run1_cnt, q_run1_pas, q_runs_nil, q_runs_cons, q_runH_nil, q_runH_cons, tst, bltop, bindG, bindGs, cmpop, ofB, truthy, int1, int2, ltop, leop, binop, addop, subop, mulop, divop, modop, powop, ixop, items, litems, ditems, mkLst, mkDic, lenop, intop, isiop, tyOf, putop, src, wipeP, metop, metok, isLst, isDic, isStr, isLsq, appop, popL, getD, slop, revop, tupop, lstop, keyOf, inop, Aes.len, peq, scalP, eqF, isNon, isBl, turnC, e3, con_zq, -peq, e4, z, tm]) false
    refine this.trans ?_
    show mkLst false _ _ = _
    unfold formOf lain mkLst
    simp [Function.comp_def]
  simp [body, q_ev_v, q_ev_non, q_ev_bl, q_ev_int, q_ev_str, q_ev_con, q_ev_tup, q_ev_lst, q_ev_bin, q_ev_neg, q_ev_not, q_ev_cmp, q_ev_chain, q_ev_and, q_ev_or, q_ev_ifx, q_ev_ix, q_ev_sl, q_ev_call, q_ev_blt, q_ev_isi, q_ev_met, q_ev_tupS, q_ev_lstS, q_ev_rev, q_ev_dnew, q_ev_dzip, q_ev_fnv, q_ev_calv, q_ev_val, q_evs_nil, q_evs_cons, q_evs_star, q_evD_nil, q_evD_cons, q_evAnd_cons, q_evAnd_cons2, q_evOr_cons, q_evOr_cons2, q_evIfs_none, q_evIfs_some, q_evo_none, q_evo_some, q_evi_ex, q_run1_ex, q_run1_set, q_run1_put, q_run1_aug, q_run1_augs, q_run1_ite, q_run1_whl, q_run1_for, q_run1_ret, q_run1_retN, q_run1_rais, q_run1_try, q_run1_brk, q_run1_cnt, q_run1_pas, q_runs_nil, q_runs_cons, q_runH_nil, q_runH_cons, tst, bltop, bindG, bindGs, cmpop, ofB, truthy, int1, int2, ltop, leop, binop, addop, subop, mulop, divop, modop, powop, ixop, items, litems, ditems, mkLst, mkDic, lenop, intop, isiop, tyOf, putop, src, wipeP, metop, metok, isLst, isDic, isStr, isLsq, appop, popL, getD, slop, revop, tupop, lstop, keyOf, inop, Aes.len, peq, scalP, eqF, isNon, isBl, f_form_of, kmerge_nil, el, ec]
  exact end_rt_app
end Mx.FA

end

section
set_option linter.all false
set_option maxRecDepth 100000
set_option maxHeartbeats 4000000
set_option exponentiation.threshold 20000
namespace Mx.FA
open PySem PySem.Spec PyProof.Rows L2 Mx
def sumF (f g : Form) : Form := formOf (f.1 + g.1) (f.2 ++ g.2)
def scaleF (f : Form) (q : Rat) : Form := formOf (f.1 * q) (f.2.map fun t => (t.1, t.2 * q))
theorem src_tup (xs : List PV) (h : MH) : src (.tup xs) h = some ([], xs) := rfl
theorem src_lst (xs : List PV) (h : MH) : src (.lst xs) h = some ([], xs) := rfl
theorem tok_nil {ts : List Tm} (h1 : szl ts ≤ 8980) (h2 : ts.length ≤ 63) : Tok 8985 [] ts := ⟨fun k => by
  have : val [] k = 0 := rfl
  rw [this, sz_zero]; omega, by simpa using h2⟩
theorem s_sum_form {PG : Pg} [Has PG "sum_form" f_sum_form] [Has PG "sum_of_two" f_sum_of_two] [Has PG "lowest" f_lowest] [Has PG "form_of" f_form_of] [HasC PG "ZERO" (.tup [(.int 0), (.int 1)])] {n : Nat} (hn : 4 ≤ n) (h : MH) (f g : Form) (hz : sz f.1 + sz g.1 ≤ 8990) (h1 : szl f.2 + szl g.2 ≤ 8980) (h2 : f.2.length + g.2.length ≤ 63) : call PG n "sum_form" [fm f, fm g] [] [] h = .ok (fm (sumF f g)) h := by
  rw [call_ge (by omega) rfl]
  have e1 := s_sum (PG := PG) (n := n - 1) (by omega) h f.1 g.1 hz
  have e2 := s_form_of (PG := PG) (n := n - 1) (by omega) h (v := .tup (f.2.map tm ++ g.2.map tm)) (f.1 + g.1) (f.2 ++ g.2) (fun e => by rw [src_tup, List.map_append]) (tok_nil (by rw [szl_app]; exact h1) (by rw [List.length_append]; exact h2))
  have zl : f.2.length + g.2.length ≤ sizeLine := small (Nat.le_trans h2 (by decide)) (Nat.le_refl _)
  simp [body, q_ev_v, q_ev_non, q_ev_bl, q_ev_int, q_ev_str, q_ev_con, q_ev_tup, q_ev_lst, q_ev_bin, q_ev_neg, q_ev_not, q_ev_cmp, q_ev_chain, q_ev_and, q_ev_or, q_ev_ifx, q_ev_ix, q_ev_sl, q_ev_call, q_ev_blt, q_ev_isi, q_ev_met, q_ev_tupS, q_ev_lstS, q_ev_rev, q_ev_dnew, q_ev_dzip, q_ev_fnv, q_ev_calv, q_ev_val, q_evs_nil, q_evs_cons, q_evs_star, q_evD_nil, q_evD_cons, q_evAnd_cons, q_evAnd_cons2, q_evOr_cons, q_evOr_cons2, q_evIfs_none, q_evIfs_some, q_evo_none, q_evo_some, q_evi_ex, q_run1_ex, q_run1_set, q_run1_put, q_run1_aug, q_run1_augs, q_run1_ite, q_run1_whl, q_run1_for, q_run1_ret, q_run1_retN, q_run1_rais, q_run1_try, q_run1_brk, q_run1_cnt, q_run1_pas, q_runs_nil, q_runs_cons, q_runH_nil, q_runH_cons, tst, bltop, bindG, bindGs, cmpop, ofB, truthy, int1, int2, ltop, leop, binop, addop, subop, mulop, divop, modop, powop, ixop, items, litems, ditems, mkLst, mkDic, lenop, intop, isiop, tyOf, putop, src, wipeP, metop, metok, isLst, isDic, isStr, isLsq, appop, popL, getD, slop, revop, tupop, lstop, keyOf, inop, Aes.len, peq, scalP, eqF, isNon, isBl, f_sum_form, fm, e1, zl]
  rw [e2]
  simp
  exact end_rt
theorem s_scaled_form {PG : Pg} [Has PG "scaled_form" f_scaled_form] [Has PG "product" f_product] [Has PG "lowest" f_lowest] [Has PG "form_of" f_form_of] [Has PG "sum_of_two" f_sum_of_two] [HasC PG "ZERO" (.tup [(.int 0), (.int 1)])] {n : Nat} (hn : 4 ≤ n) (h : MH) (f : Form) (q : Rat) (hz : ∀ t ∈ f.2, sz t.2 + sz q ≤ 8990) (hc : sz f.1 + sz q ≤ 8990) (h1 : szl f.2 + f.2.length * sz q ≤ 8980) (h2 : f.2.length ≤ 63) : call PG n "scaled_form" [fm f, nq q] [] [] h = .ok (fm (scaleF f q)) h := by
  rw [call_ge (by omega) rfl]
  have e1 := s_product (PG := PG) (n := n - 1) (by omega) h f.1 q hc
  have hs : ∀ ts : List Tm, szl (ts.map fun t => (t.1, t.2 * q)) ≤ szl ts + ts.length * sz q := by
    intro ts
    induction ts with
    | nil => simp [szl]
    | cons t ts ih =>
      have := sz_mul t.2 q
      simp only [List.map_cons, szl, List.length_cons, Nat.add_mul]
      omega
  have e2 := s_form_of (PG := PG) (n := n - 1) (by omega) h (v := .lst ((f.2.map fun t => (t.1, t.2 * q)).map tm)) (f.1 * q) (f.2.map fun t => (t.1, t.2 * q)) (fun e => by rw [src_lst]) (tok_nil (Nat.le_trans (hs f.2) h1) (by simpa using h2))
  have ec : ev PG (call PG (n - 1)) c_scaled_form_1 [some (fm f), some (nq q), none, none] h = .ok (.lst ((f.2.map fun t => (t.1, t.2 * q)).map tm)) h := by
    rw [List.map_map]
    refine comp_mp (P := PG) (cl := call PG (n - 1)) (l := []) (g := tm) (xs := f.2) (f := fun t => tm (t.1, t.2 * q)) (by simp [body, q_ev_v, q_ev_non, q_ev_bl, q_ev_int, q_ev_str, q_ev_con, q_ev_tup, q_ev_lst, q_ev_bin, q_ev_neg, q_ev_not, q_ev_cmp, q_ev_chain, q_ev_and, q_ev_or, q_ev_ifx, q_ev_ix, q_ev_sl, q_ev_call, q_ev_blt, q_ev_isi, q_ev_met, q_ev_tupS, q_ev_lstS, q_ev_rev, q_ev_dnew, q_ev_dzip, q_ev_fnv, q_ev_calv, q_ev_val, q_evs_nil, q_evs_cons, q_evs_star, q_evD_nil, q_evD_cons, q_evAnd_cons, q_evAnd_cons2, q_evOr_cons, q_evOr_cons2, q_evIfs_none, q_evIfs_some, q_evo_none, q_evo_some, q_evi_ex, q_run1_ex, q_run1_set, q_run1_put, q_run1_aug, q_run1_augs, q_run1_ite, q_run1_whl, q_run1_for, q_run1_ret, q_run1_retN, q_run1_rais, q_run1_try, q_run1_brk, q_run1_cnt, q_run1_pas, q_runs_nil, q_runs_cons, q_runH_nil, q_runH_cons, tst, bltop, bindG, bindGs, cmpop, ofB, truthy, int1, int2, ltop, leop, binop, addop, subop, mulop, divop, modop, powop, ixop, items, litems, ditems, mkLst, mkDic, lenop, intop, isiop, tyOf, putop, src, wipeP, metop, metok, isLst, isDic, isStr, isLsq, appop, popL, getD, slop, revop, tupop, lstop, keyOf, inop, Aes.len, peq, scalP, eqF, isNon, isBl, fm]) chk_nil (small (Nat.le_trans h2 (by decide)) (Nat.le_refl _)) (fun t ht => ?_) false
    have e := s_product (PG := PG) (n := n - 1) (by omega) h t.2 q (hz t ht)
    simp [body, q_ev_v, q_ev_non, q_ev_bl, q_ev_int, q_ev_str, q_ev_con, q_ev_tup, q_ev_lst, q_ev_bin, q_ev_neg, q_ev_not, q_ev_cmp, q_ev_chain, q_ev_and, q_ev_or, q_ev_ifx, q_ev_ix, q_ev_sl, q_ev_call, q_ev_blt, q_ev_isi, q_ev_met, q_ev_tupS, q_ev_lstS, q_ev_rev, q_ev_dnew, q_ev_dzip, q_ev_fnv, q_ev_calv, q_ev_val, q_evs_nil, q_evs_cons, q_evs_star, q_evD_nil, q_evD_cons, q_evAnd_cons, q_evAnd_cons2, q_evOr_cons, q_evOr_cons2, q_evIfs_none, q_evIfs_some, q_evo_none, q_evo_some, q_evi_ex, q_run1_ex, q_run1_set, q_run1_put, q_run1_aug, q_run1_augs, q_run1_ite, q_run1_whl, q_run1_for, q_run1_ret, q_run1_retN, q_run1_rais, q_run1_try, q_run1_brk, q_run1_cnt, q_run1_pas, q_runs_nil, q_runs_cons, q_runH_nil, q_runH_cons, tst, bltop, bindG, bindGs, cmpop, ofB, truthy, int1, int2, ltop, leop, binop, addop, subop, mulop, divop, modop, powop, ixop, items, litems, ditems, mkLst, mkDic, lenop, intop, isiop, tyOf, putop, src, wipeP, metop, metok, isLst, isDic, isStr, isLsq, appop, popL, getD, slop, revop, tupop, lstop, keyOf, inop, Aes.len, peq, scalP, eqF, isNon, isBl, turnC, tm, e]
  have ef : ixop (fm f) (.int 0) h = .ok (nq f.1) h := by simp [fm, ixop, ditems, keyOf, items]
  have er : scaleF f q = formOf (f.1 * q) (f.2.map fun t => (t.1, t.2 * q)) := rfl
  rw [er]
  generalize (f.2.map fun t => (t.1, t.2 * q)) = ts at ec e2
  simp [body, q_ev_v, q_ev_non, q_ev_bl, q_ev_int, q_ev_str, q_ev_con, q_ev_tup, q_ev_lst, q_ev_bin, q_ev_neg, q_ev_not, q_ev_cmp, q_ev_chain, q_ev_and, q_ev_or, q_ev_ifx, q_ev_ix, q_ev_sl, q_ev_call, q_ev_blt, q_ev_isi, q_ev_met, q_ev_tupS, q_ev_lstS, q_ev_rev, q_ev_dnew, q_ev_dzip, q_ev_fnv, q_ev_calv, q_ev_val, q_evs_nil, q_evs_cons, q_evs_star, q_evD_nil, q_evD_cons, q_evAnd_cons, q_evAnd_cons2, q_evOr_cons, q_evOr_cons2, q_evIfs_none, q_evIfs_some, q_evo_none, q_evo_some, q_evi_ex, q_run1_ex, q_run1_set, q_run1_put, q_run1_aug, q_run1_augs, q_run1_ite, q_run1_whl, q_run1_for, q_run1_ret, q_run1_retN, q_run1_rais, q_run1_try, q_run1_brk, q_run1_cnt, q_run1_pas, q_runs_nil, q_runs_cons, q_runH_nil, q_runH_cons, tst, bltop, bindG, bindGs, cmpop, ofB, truthy, int1, int2, ltop, leop, binop, addop, subop, mulop, divop, modop, powop, ixop, items, litems, ditems, mkLst, mkDic, lenop, intop, isiop, tyOf, putop, src, wipeP, metop, metok, isLst, isDic, isStr, isLsq, appop, popL, getD, slop, revop, tupop, lstop, keyOf, inop, Aes.len, peq, scalP, eqF, isNon, isBl, -ixop, f_scaled_form, ef, e1, ec, e2]
  exact end_rt
/-! worth -/
def worthF (f : Form) (e : Str → Rat) : Rat := rsum (f.1 :: f.2.map fun t => t.2 * e t.1)
theorem s_worth_at {PG : Pg} [Has PG "worth_at" f_worth_at] [Has PG "product" f_product] [Has PG "lowest" f_lowest] [Has PG "sum_of_all" f_sum_of_all] [Has PG "sum_of_two" f_sum_of_two] {n : Nat} (hn : 4 ≤ n) (h : MH) (f : Form) (tv : PV) (e : Str → Rat) (ht : ∀ t ∈ f.2, ixop tv (.str t.1) h = .ok (nq (e t.1)) h) (hz : ∀ t ∈ f.2, sz t.2 + sz (e t.1) ≤ 8900) (hs : sz f.1 + szs (f.2.map fun t => t.2 * e t.1) ≤ 8970) (hl : f.2.length ≤ 900000) : call PG n "worth_at" [fm f, tv] [] [] h = .ok (nq (worthF f e)) h := by
  rw [call_ge (by omega) rfl]
  have ec : ev PG (call PG (n - 1)) c_worth_at_1 [some (fm f), some tv, none, none] h = .ok (.lst ((f.2.map fun t => t.2 * e t.1).map nq)) h := by
    rw [List.map_map]
    refine comp_mp (P := PG) (cl := call PG (n - 1)) (l := []) (g := tm) (xs := f.2) (f := fun t => nq (t.2 * e t.1)) (by simp [body, q_ev_v, q_ev_non, q_ev_bl, q_ev_int, q_ev_str, q_ev_con, q_ev_tup, q_ev_lst, q_ev_bin, q_ev_neg, q_ev_not, q_ev_cmp, q_ev_chain, q_ev_and, q_ev_or, q_ev_ifx, q_ev_ix, q_ev_sl, q_ev_call, q_ev_blt, q_ev_isi, q_ev_met, q_ev_tupS, q_ev_lstS, q_ev_rev, q_ev_dnew, q_ev_dzip, q_ev_fnv, q_ev_calv, q_ev_val, q_evs_nil, q_evs_cons, q_evs_star, q_evD_nil, q_evD_cons, q_evAnd_cons, q_evAnd_cons2, q_evOr_cons, q_evOr_cons2, q_evIfs_none, q_evIfs_some, q_evo_none, q_evo_some, q_evi_ex, q_run1_ex, q_run1_set, q_run1_put, q_run1_aug, q_run1_augs, q_run1_ite, q_run1_whl, q_run1_for, q_run1_ret, q_run1_retN, q_run1_rais, q_run1_try, q_run1_brk, q_run1_cnt, q_run1_pas, q_runs_nil, q_runs_cons, q_runH_nil, q_runH_cons, tst, bltop, bindG, bindGs, cmpop, ofB, truthy, int1, int2, ltop, leop, binop, addop, subop, mulop, divop, modop, powop, ixop, items, litems, ditems, mkLst, mkDic, lenop, intop, isiop, tyOf, putop, src, wipeP, metop, metok, isLst, isDic, isStr, isLsq, appop, popL, getD, slop, revop, tupop, lstop, keyOf, inop, Aes.len, peq, scalP, eqF, isNon, isBl, fm]) chk_nil (small (Nat.le_trans hl (by decide)) (Nat.le_refl _)) (fun t htm => ?_) false
    have e1 := s_product (PG := PG) (n := n - 1) (by omega) h t.2 (e t.1) (by have := hz t htm; omega)
    have e2 := ht t htm
    simp [body, q_ev_v, q_ev_non, q_ev_bl, q_ev_int, q_ev_str, q_ev_con, q_ev_tup, q_ev_lst, q_ev_bin, q_ev_neg, q_ev_not, q_ev_cmp, q_ev_chain, q_ev_and, q_ev_or, q_ev_ifx, q_ev_ix, q_ev_sl, q_ev_call, q_ev_blt, q_ev_isi, q_ev_met, q_ev_tupS, q_ev_lstS, q_ev_rev, q_ev_dnew, q_ev_dzip, q_ev_fnv, q_ev_calv, q_ev_val, q_evs_nil, q_evs_cons, q_evs_star, q_evD_nil, q_evD_cons, q_evAnd_cons, q_evAnd_cons2, q_evOr_cons, q_evOr_cons2, q_evIfs_none, q_evIfs_some, q_evo_none, q_evo_some, q_evi_ex, q_run1_ex, q_run1_set, q_run1_put, q_run1_aug, q_run1_augs, q_run1_ite, q_run1_whl, q_run1_for, q_run1_ret, q_run1_retN, q_run1_rais, q_run1_try, q_run1_brk, q_run1_cnt, q_run1_pas, q_runs_nil, q_runs_cons, q_runH_nil, q_runH_cons, tst, bltop, bindG, bindGs, cmpop, ofB, truthy, int1, int2, ltop, leop, binop, addop, subop, mulop, divop, modop, powop, ixop, items, litems, ditems, mkLst, mkDic, lenop, intop, isiop, tyOf, putop, src, wipeP, metop, metok, isLst, isDic, isStr, isLsq, appop, popL, getD, slop, revop, tupop, lstop, keyOf, inop, Aes.len, peq, scalP, eqF, isNon, isBl, -ixop, turnC, tm, e1, e2]
  have ef : ixop (fm f) (.int 0) h = .ok (nq f.1) h := by simp [fm, ixop, ditems, keyOf, items]
  have e2 := s_sum_all (PG := PG) (n := n - 1) (by omega) h (v := .lst (nq f.1 :: (f.2.map fun t => t.2 * e t.1).map nq)) (l := []) (f.1 :: f.2.map fun t => t.2 * e t.1) (by rw [src_lst]; rfl) chk_nil (by simp only [szs]; omega)
  have er : worthF f e = rsum (f.1 :: f.2.map fun t => t.2 * e t.1) := rfl
  rw [er]
  have zl : 1 + (f.2.map fun t => t.2 * e t.1).length ≤ sizeLine := small (b := 1000000) (by rw [List.length_map]; omega)
  generalize (f.2.map fun t => t.2 * e t.1) = rs at ec e2 zl
  simp [body, q_ev_v, q_ev_non, q_ev_bl, q_ev_int, q_ev_str, q_ev_con, q_ev_tup, q_ev_lst, q_ev_bin, q_ev_neg, q_ev_not, q_ev_cmp, q_ev_chain, q_ev_and, q_ev_or, q_ev_ifx, q_ev_ix, q_ev_sl, q_ev_call, q_ev_blt, q_ev_isi, q_ev_met, q_ev_tupS, q_ev_lstS, q_ev_rev, q_ev_dnew, q_ev_dzip, q_ev_fnv, q_ev_calv, q_ev_val, q_evs_nil, q_evs_cons, q_evs_star, q_evD_nil, q_evD_cons, q_evAnd_cons, q_evAnd_cons2, q_evOr_cons, q_evOr_cons2, q_evIfs_none, q_evIfs_some, q_evo_none, q_evo_some, q_evi_ex, q_run1_ex, q_run1_set, q_run1_put, q_run1_aug, q_run1_augs, q_run1_ite, q_run1_whl, q_run1_for, q_run1_ret, q_run1_retN, q_run1_rais, q_run1_try, q_run1_brk, q_run1_cnt, q_run1_pas, q_runs_nil, q_runs_cons, q_runH_nil, q_runH_cons, tst, bltop, bindG, bindGs, cmpop, ofB, truthy, int1, int2, ltop, leop, binop, addop, subop, mulop, divop, modop, powop, ixop, items, litems, ditems, mkLst, mkDic, lenop, intop, isiop, tyOf, putop, src, wipeP, metop, metok, isLst, isDic, isStr, isLsq, appop, popL, getD, slop, revop, tupop, lstop, keyOf, inop, Aes.len, peq, scalP, eqF, isNon, isBl, -ixop, f_worth_at, ef, ec, zl, e2]
  exact end_rt
/-! dicts of rows -/
theorem pairs_tm : ∀ ts : List Tm, pairsOf (ts.map tm) = some (tb nq ts)
  | [] => rfl
  | t :: ts => by
    rw [List.map_cons]
    show (match keyOf (.str t.1), pairsOf (ts.map tm) with
      | some k, some ps => some ((k, nq t.2) :: ps)
      | _, _ => none) = _
    rw [pairs_tm ts]
    rfl
theorem kmerge_nodup {α : Type} : ∀ (ps kvs : List (Key × α)), (ps.map (·.1)).Nodup → (∀ p ∈ ps, p.1 ∉ kvs.map (·.1)) → kmerge kvs ps = kvs ++ ps
  | [], kvs, _, _ => by simp [kmerge]
  | p :: ps, kvs, nd, hk => by
    rw [List.map_cons, List.nodup_cons] at nd
    have e : kput kvs p.1 p.2 = kvs ++ [p] := by
      unfold kput
      rw [if_neg ?_]
      intro h
      rw [List.any_eq_true] at h
      obtain ⟨q, hq, e⟩ := h
      exact hk p List.mem_cons_self (List.mem_map.mpr ⟨q, hq, by simpa using e⟩)
    show kmerge (kput kvs p.1 p.2) ps = _
    rw [e, kmerge_nodup ps _ nd.2 fun q hq => ?_]
    · simp
    · rw [List.map_append, List.mem_append]
      rintro (h | h)
      · exact hk q (List.mem_cons_of_mem _ hq) h
      · have : q.1 = p.1 := by simpa using h
        exact nd.1 (this ▸ List.mem_map.mpr ⟨q, hq, rfl⟩)
theorem tb_nodup {α : Type} {g : α → PV} {t : List (Str × α)} (h : (t.map (·.1)).Nodup) : ((tb g t).map (·.1)).Nodup := by
  rw [tb_fst]
  have : t.map (fun p => (Sum.inr p.1 : Key)) = (t.map (·.1)).map Sum.inr := by simp
  rw [this]
  exact List.Pairwise.map _ (fun a b hne e => hne (Sum.inr.inj e)) h
theorem dict_tm {ts : List Tm} (h : (ts.map (·.1)).Nodup) : kmerge [] (tb nq ts) = tb nq ts := kmerge_nodup _ _ (tb_nodup h) fun _ _ q => by cases q
def putF (f : Form) (k : Str) (o : Form) : Form := sumF (f.1, f.2.filter fun t => decide (t.1 ≠ k)) (scaleF o (val f.2 k))
theorem str_eq {h : MH} (x y : Str) : peq h (.str x) (.str y) = some (decide (x = y)) := by
  show some (x == y) = _
  congr 1
/-! how long what is made is -/
theorem val_bound {k : Nat} {t : Tab} (h : ∀ p ∈ t, sz p.2 ≤ k) (hk : 1 ≤ k) (x : Str) : sz (val t x) ≤ k := by
  unfold val sget
  cases e : t.find? fun p => decide (p.1 = x) with
  | none => show sz 0 ≤ k; rw [sz_zero]; exact hk
  | some p => exact h p (List.mem_of_find?_eq_some e)
theorem tab_bound {ts : List Tm} (x : Str) : sz (val (tabOf ts) x) ≤ 1 + szl ts := by
  have key : ∀ (ts : List Tm) (t : Tab) (M : Nat), (∀ y, sz (val t y) ≤ M) → sz (val (ts.foldl addT t) x) ≤ M + szl ts := by
    intro ts
    induction ts with
    | nil => intro t M h; simpa [szl] using h x
    | cons p ts ih =>
      intro t M h
      have := ih (addT t p) (M + (sz p.2 + 1)) fun y => by
        unfold addT
        rw [val_put]
        have h1 := h y
        have h2 := h p.1
        have h3 := sz_add (val t p.1) p.2
        split <;> omega
      simp only [szl, List.foldl_cons]
      omega
  exact key ts [] 1 fun y => by show sz 0 ≤ 1; rw [sz_zero]; exact Nat.le_refl _
theorem formOf_BF (c : Rat) (ts : List Tm) : BF (max (sz c) (1 + szl ts)) (formOf c ts) := ⟨Nat.le_max_left .., fun t ht => by
  unfold formOf lain at ht
  obtain ⟨k, hk, rfl⟩ := List.mem_map.mp ht
  exact Nat.le_trans (tab_bound k) (Nat.le_max_right ..)⟩
theorem addT_keys {t : Tab} {p : Tm} {k : Str} : k ∈ (addT t p).map (·.1) ↔ k ∈ t.map (·.1) ∨ k = p.1 := by
  unfold addT
  rw [sput_keys]
  split
  · rename_i h
    constructor
    · exact .inl
    · rintro (h' | rfl)
      · exact h'
      · exact h
  · rw [List.mem_append, List.mem_singleton]
theorem tabOf_keys {ts : List Tm} {k : Str} : k ∈ (tabOf ts).map (·.1) ↔ k ∈ ts.map (·.1) := by
  have key : ∀ (ts : List Tm) (t : Tab), k ∈ (ts.foldl addT t).map (·.1) ↔ k ∈ t.map (·.1) ∨ k ∈ ts.map (·.1) := by
    intro ts
    induction ts with
    | nil => intro t; simp
    | cons p ts ih =>
      intro t
      rw [List.foldl_cons, ih, addT_keys, List.map_cons, List.mem_cons, or_assoc]
  have := key ts []
  simpa [tabOf] using this
theorem tabOf_nodup (ts : List Tm) : ((tabOf ts).map (·.1)).Nodup := by
  have key : ∀ (ts : List Tm) (t : Tab), (t.map (·.1)).Nodup → ((ts.foldl addT t).map (·.1)).Nodup := by
    intro ts
    induction ts with
    | nil => intro t h; exact h
    | cons p ts ih => intro t h; exact ih _ (sput_nodup h)
  exact key ts [] (by simp)
theorem tabOf_len (ts : List Tm) : (tabOf ts).length ≤ ts.length := by
  have key : ∀ (ts : List Tm) (t : Tab), (ts.foldl addT t).length ≤ t.length + ts.length := by
    intro ts
    induction ts with
    | nil => intro t; simp
    | cons p ts ih =>
      intro t
      have := ih (addT t p)
      have h2 := sput_len_le (t := t) (k := p.1) (v := val t p.1 + p.2)
      rw [List.foldl_cons, List.length_cons]
      unfold addT at this ⊢
      omega
  simpa [tabOf] using key ts []
theorem sortS_asc {l : List Str} (h : l.Nodup) : ascS (l.mergeSort leS) = true := by
  rw [ascS_iff]
  have h1 := List.pairwise_mergeSort leS_trans leS_total l
  have h2 : (l.mergeSort leS).Nodup := (List.mergeSort_perm l leS).nodup_iff.mpr h
  have h3 := h1.and h2
  refine h3.imp fun {a b} ⟨x, y⟩ => ?_
  unfold ltS
  refine decide_eq_true ?_
  rw [leS_iff] at x
  rcases Std.le_iff_lt_or_eq.mp x with q | q
  · exact q
  · refine absurd ?_ y
    cases a; cases b
    simp only at q
    rw [Array.toList_inj] at q
    rw [q]
theorem lain_VF {c : Rat} {t : Tab} (nd : (t.map (·.1)).Nodup) (hn : ∀ k ∈ t.map (·.1), isNm k = true) : VF (lain c t) := by
  refine ⟨fun u hu => ?_, fun u hu => ?_, ?_⟩
  · unfold lain at hu
    obtain ⟨k, hk, rfl⟩ := List.mem_map.mp hu
    exact hn k (keysT_mem.mp (List.mem_filter.mp hk).1)
  · unfold lain at hu
    obtain ⟨k, hk, rfl⟩ := List.mem_map.mp hu
    exact of_decide_eq_true (List.mem_filter.mp hk).2
  · unfold lain
    rw [List.map_map]
    have : ((fun x : Str × Rat => x.1) ∘ fun k => (k, val t k)) = id := rfl
    rw [this, List.map_id]
    rw [ascS_iff]
    exact (ascS_iff.mp (sortS_asc nd)).filter _
theorem lain_len (c : Rat) (t : Tab) : (lain c t).2.length ≤ t.length := by
  unfold lain
  rw [List.length_map]
  exact Nat.le_trans (List.length_filter_le ..) (by rw [keysT_len]; exact Nat.le_refl _)
theorem lain_mem {c : Rat} {t : Tab} {k : Str} (h : k ∈ (lain c t).2.map (·.1)) : k ∈ t.map (·.1) := by
  unfold lain at h
  rw [List.map_map] at h
  obtain ⟨x, hx, rfl⟩ := List.mem_map.mp h
  exact keysT_mem.mp (List.mem_filter.mp hx).1
theorem formOf_VF {c : Rat} {ts : List Tm} (h : ∀ t ∈ ts, isNm t.1 = true) : VF (formOf c ts) := lain_VF (tabOf_nodup ts) fun k hk => by
  obtain ⟨t, ht, rfl⟩ := List.mem_map.mp (tabOf_keys.mp hk)
  exact h t ht
theorem formOf_len (c : Rat) (ts : List Tm) : (formOf c ts).2.length ≤ ts.length := Nat.le_trans (lain_len ..) (tabOf_len ts)
theorem formOf_mem {c : Rat} {ts : List Tm} {k : Str} (h : k ∈ (formOf c ts).2.map (·.1)) : k ∈ ts.map (·.1) := tabOf_keys.mp (lain_mem h)
/-! one form in the place of a name -/
theorem VF.nd {f : Form} (v : VF f) : (f.2.map (·.1)).Nodup := ascS_nodup v.up
end Mx.FA

end

section
set_option linter.all false
set_option maxRecDepth 100000
set_option maxHeartbeats 4000000
set_option exponentiation.threshold 20000
namespace Mx.FA
open PySem PySem.Spec PyProof.Rows L2 Mx

/-! sums of terms, name by name -/
def tot : List Tm → Str → Rat
  | [], _ => 0
  | p :: ts, k => (if k = p.1 then p.2 else 0) + tot ts k
theorem tot_app (a b : List Tm) (k : Str) : tot (a ++ b) k = tot a k + tot b k := by
  induction a with
  | nil => simp [tot, Rat.zero_add]
  | cons p a ih => simp only [List.cons_append, tot, ih, Rat.add_assoc]
theorem val_fold (ts : List Tm) (k : Str) : ∀ t : Tab, val (ts.foldl addT t) k = val t k + tot ts k := by
  induction ts with
  | nil => intro t; simp [tot, Rat.add_zero]
  | cons p ts ih =>
    intro t
    rw [List.foldl_cons, ih, tot]
    unfold addT
    rw [val_put]
    by_cases e : k = p.1
    · subst e; rw [if_pos rfl, if_pos rfl, Rat.add_assoc]
    · rw [if_neg e, if_neg e, Rat.zero_add]
theorem val_nil (k : Str) : val [] k = 0 := rfl
theorem val_tabOf (ts : List Tm) (k : Str) : val (tabOf ts) k = tot ts k := by
  unfold tabOf; rw [val_fold, val_nil, Rat.zero_add]
theorem val_cons (p : Tm) (t : Tab) (k : Str) : val (p :: t) k = if k = p.1 then p.2 else val t k := by
  unfold val sget
  rw [List.find?_cons]
  by_cases e : p.1 = k
  · subst e; simp
  · rw [if_neg fun q => e q.symm]; simp [e]
theorem val_not {t : Tab} {k : Str} (h : k ∉ t.map (·.1)) : val t k = 0 := by
  induction t with
  | nil => rfl
  | cons p t ih =>
    rw [List.map_cons, List.mem_cons, not_or] at h
    rw [val_cons, if_neg h.1, ih h.2]
theorem tot_not {t : List Tm} {k : Str} (h : k ∉ t.map (·.1)) : tot t k = 0 := by
  induction t with
  | nil => rfl
  | cons p t ih =>
    rw [List.map_cons, List.mem_cons, not_or] at h
    rw [tot, if_neg h.1, ih h.2, Rat.zero_add]
theorem tot_val {ts : List Tm} (nd : (ts.map (·.1)).Nodup) (k : Str) : tot ts k = val ts k := by
  induction ts with
  | nil => rfl
  | cons p ts ih =>
    rw [List.map_cons, List.nodup_cons] at nd
    rw [tot, val_cons, ih nd.2]
    by_cases e : k = p.1
    · subst e; rw [if_pos rfl, if_pos rfl, val_not nd.1, Rat.add_zero]
    · rw [if_neg e, if_neg e, Rat.zero_add]
theorem val_mem {t : Tab} (nd : (t.map (·.1)).Nodup) {p : Tm} (h : p ∈ t) : val t p.1 = p.2 := by
  induction t with
  | nil => cases h
  | cons q t ih =>
    rw [List.map_cons, List.nodup_cons] at nd
    rw [val_cons]
    rcases List.mem_cons.mp h with rfl | h
    · rw [if_pos rfl]
    · have : p.1 ≠ q.1 := fun e => nd.1 (e ▸ List.mem_map.mpr ⟨p, h, rfl⟩)
      rw [if_neg this, ih nd.2 h]
theorem val_filter {t : Tab} {c : Str → Bool} (k : Str) : val (t.filter fun p => c p.1) k = if c k = true then val t k else 0 := by
  induction t with
  | nil => simp [val_nil]
  | cons p t ih =>
    rw [List.filter_cons]
    by_cases e : c p.1 = true
    · rw [if_pos e, val_cons, val_cons, ih]
      by_cases e2 : k = p.1
      · subst e2; simp [e]
      · rw [if_neg e2, if_neg e2]
    · rw [if_neg e, ih, val_cons]
      by_cases e2 : k = p.1
      · subst e2; simp [e]
      · rw [if_neg e2]
theorem val_scale {t : Tab} (q : Rat) (k : Str) : val (t.map fun p => (p.1, p.2 * q)) k = val t k * q := by
  induction t with
  | nil => simp [val_nil, Rat.zero_mul]
  | cons p t ih =>
    rw [List.map_cons, val_cons, val_cons, ih]
    split <;> rfl
theorem val_keys {l : List Str} {g : Str → Rat} (k : Str) : val (l.map fun x => (x, g x)) k = if k ∈ l then g k else 0 := by
  induction l with
  | nil => simp [val_nil]
  | cons x l ih =>
    rw [List.map_cons, val_cons, ih]
    by_cases e : k = x
    · subst e; simp
    · simp [e]
theorem val_lain (c : Rat) (t : Tab) (k : Str) : val (lain c t).2 k = val t k := by
  unfold lain
  rw [val_keys]
  by_cases h : k ∈ t.map (·.1)
  · by_cases e : val t k = 0
    · rw [if_neg fun q => by simpa [e] using (List.mem_filter.mp q).2, e]
    · rw [if_pos (List.mem_filter.mpr ⟨keysT_mem.mpr h, by simpa using e⟩)]
  · rw [if_neg fun q => h (keysT_mem.mp (List.mem_filter.mp q).1), val_not h]
theorem val_formOf (c : Rat) (ts : List Tm) (k : Str) : val (formOf c ts).2 k = tot ts k := by
  unfold formOf; rw [val_lain, val_tabOf]
/-! a form is what it has of each name -/
theorem mem_val {f : Form} (v : VF f) {k : Str} : k ∈ f.2.map (·.1) ↔ val f.2 k ≠ 0 := by
  constructor
  · intro h
    obtain ⟨p, hp, rfl⟩ := List.mem_map.mp h
    rw [val_mem v.nd hp]
    exact v.nz p hp
  · intro h
    exact Classical.byContradiction fun q => h (val_not q)
theorem asc_eq : ∀ {a b : List Str}, a.Pairwise (fun x y => ltS x y = true) → b.Pairwise (fun x y => ltS x y = true) → (∀ k, k ∈ a ↔ k ∈ b) → a = b
  | [], [], _, _, _ => rfl
  | [], y :: b, _, _, h => absurd ((h y).mpr List.mem_cons_self) (by simp)
  | x :: a, [], _, _, h => absurd ((h x).mp List.mem_cons_self) (by simp)
  | x :: a, y :: b, ha, hb, h => by
    rw [List.pairwise_cons] at ha hb
    have e : x = y := by
      rcases List.mem_cons.mp ((h x).mp List.mem_cons_self) with e | m
      · exact e
      · rcases List.mem_cons.mp ((h y).mpr List.mem_cons_self) with e | m2
        · exact e.symm
        · have := ltS_trans (hb.1 x m) (ha.1 y m2)
          rw [ltS_irrefl] at this; cases this
    subst e
    rw [asc_eq ha.2 hb.2 fun k => ?_]
    constructor
    · intro m
      rcases List.mem_cons.mp ((h k).mp (List.mem_cons_of_mem _ m)) with rfl | m'
      · have := ha.1 _ m; rw [ltS_irrefl] at this; cases this
      · exact m'
    · intro m
      rcases List.mem_cons.mp ((h k).mpr (List.mem_cons_of_mem _ m)) with rfl | m'
      · have := hb.1 _ m; rw [ltS_irrefl] at this; cases this
      · exact m'
theorem rows_eq {a b : List Tm} (na : (a.map (·.1)).Nodup) (nb : (b.map (·.1)).Nodup) (e : a.map (·.1) = b.map (·.1)) (h : ∀ k, val a k = val b k) : a = b := by
  have key : ∀ {t : List Tm}, (t.map (·.1)).Nodup → t = (t.map (·.1)).map fun k => (k, val t k) := by
    intro t nd
    rw [List.map_map]
    conv => lhs; rw [← List.map_id t]
    refine List.map_congr_left fun p hp => ?_
    show p = (p.1, val t p.1)
    rw [val_mem nd hp]
  rw [key na, key nb, e]
  exact List.map_congr_left fun k _ => by rw [h k]
theorem form_ext {f g : Form} (vf : VF f) (vg : VF g) (h1 : f.1 = g.1) (h2 : ∀ k, val f.2 k = val g.2 k) : f = g := by
  have e : f.2.map (·.1) = g.2.map (·.1) := asc_eq (ascS_iff.mp vf.up) (ascS_iff.mp vg.up) fun k => by rw [mem_val vf, mem_val vg, h2 k]
  exact Prod.ext h1 (rows_eq vf.nd vg.nd e h2)
theorem BF_of {k : Nat} {c : Rat} {ts : List Tm} (hc : sz c ≤ k) (h : ∀ x, sz (tot ts x) ≤ k) : BF k (formOf c ts) := ⟨hc, fun t ht => by
  unfold formOf lain at ht
  obtain ⟨x, hx, rfl⟩ := List.mem_map.mp ht
  show sz (val (tabOf ts) x) ≤ k
  rw [val_tabOf]; exact h x⟩
theorem scaleF_VF {f : Form} (v : VF f) (q : Rat) : VF (scaleF f q) := formOf_VF fun t ht => by
  obtain ⟨p, hp, rfl⟩ := List.mem_map.mp ht
  exact v.nm p hp
theorem scale_nd {f : Form} (v : VF f) (q : Rat) : ((f.2.map fun t => (t.1, t.2 * q)).map (·.1)).Nodup := by
  rw [List.map_map]; exact v.nd
theorem val_scaleF {f : Form} (v : VF f) (q : Rat) (k : Str) : val (scaleF f q).2 k = val f.2 k * q := by
  unfold scaleF
  rw [val_formOf, tot_val (scale_nd v q), val_scale]
theorem scaleF_BF {f : Form} {a b : Nat} (v : VF f) (bf : BF a f) {q : Rat} (hq : sz q ≤ b) (ha : 1 ≤ a) : BF (a + b) (scaleF f q) := BF_of (by have := sz_mul f.1 q; have := bf.c; omega) fun x => by
  rw [tot_val (scale_nd v q), val_scale]
  have := sz_mul (val f.2 x) q
  have := val_bound bf.t ha x
  omega
theorem scaleF_len (f : Form) (q : Rat) : (scaleF f q).2.length ≤ f.2.length := by
  have := formOf_len (f.1 * q) (f.2.map fun t => (t.1, t.2 * q))
  rw [List.length_map] at this; exact this
theorem scaleF_fst (f : Form) (q : Rat) : (scaleF f q).1 = f.1 * q := rfl
end Mx.FA

end

section
set_option linter.all false
set_option maxRecDepth 100000
set_option maxHeartbeats 4000000
set_option exponentiation.threshold 20000
namespace Mx.FA
open PySem PySem.Spec PyProof.Rows L2 Mx

def outK (ts : List Tm) (k : Str) : List Tm := ts.filter fun t => decide (t.1 ≠ k)
theorem putF_eq (f o : Form) (k : Str) : putF f k o = sumF (f.1, outK f.2 k) (scaleF o (val f.2 k)) := rfl
theorem szl_filter (ts : List Tm) (p : Tm → Bool) : szl (ts.filter p) ≤ szl ts := by
  induction ts with
  | nil => exact Nat.le_refl _
  | cons t ts ih =>
    rw [List.filter_cons]
    split <;> simp only [szl] <;> omega
theorem s_put_in {PG : Pg} [Has PG "put_in" f_put_in] [Has PG "check_name" f_check_name] [Has PG "is_name" f_is_name] [Has PG "check_form" f_check_form] [Has PG "is_form" f_is_form] [Has PG "is_pair" f_is_pair] [Has PG "is_ascending" f_is_ascending] [Has PG "is_number" f_is_number] [Has PG "is_integer" f_is_integer] [Has PG "lowest" f_lowest] [Has PG "is_term" f_is_term] [Has PG "sum_form" f_sum_form] [Has PG "sum_of_two" f_sum_of_two] [Has PG "form_of" f_form_of] [Has PG "scaled_form" f_scaled_form] [Has PG "product" f_product] [HasC PG "LETTERS" (.str "abcdefghijklmnopqrstuvwxyz")] [HasC PG "MOST_NAME" (.int 8)] [HasC PG "ZERO" (.tup [(.int 0), (.int 1)])] {n : Nat} (hn : 6 ≤ n) (h : MH) (f o : Form) (k : Str) (hk : isNm k = true) (vf : VF f) (vo : VF o) (bf : BF 200 f) (bo : BF 200 o) (lf : f.2.length ≤ 12) (lo : o.2.length ≤ 12) : call PG n "put_in" [fm f, .str k, fm o] [] [] h = .ok (fm (putF f k o)) h := by
  rw [call_ge (by omega) rfl]
  have e1 := s_check_name (PG := PG) (n := n - 1) (by omega) h k hk
  have e2 := s_check_form (PG := PG) (n := n - 1) (by omega) h f vf (bf.mono (by decide)) (by omega)
  have e3 := s_check_form (PG := PG) (n := n - 1) (by omega) h o vo (bo.mono (by decide)) (by omega)
  have bv : sz (val f.2 k) ≤ 200 := val_bound bf.t (by decide) k
  have so : szl o.2 ≤ 12 * 201 := Nat.le_trans (szl_le bo.t) (Nat.mul_le_mul_right _ lo)
  have sf : szl f.2 ≤ 12 * 201 := Nat.le_trans (szl_le bf.t) (Nat.mul_le_mul_right _ lf)
  have hm : o.2.length * sz (val f.2 k) ≤ 12 * 200 := Nat.mul_le_mul lo bv
  have e4 := s_scaled_form (PG := PG) (n := n - 1) (by omega) (h ++ [.dic (tb nq f.2)]) o (val f.2 k) (fun t ht => by have := bo.t t ht; omega) (by have := bo.c; omega) (by omega) (by omega)
  have bs := scaleF_BF vo bo (b := 200) bv (by decide)
  have ls := scaleF_len o (val f.2 k)
  have ss : szl (scaleF o (val f.2 k)).2 ≤ 12 * 401 := Nat.le_trans (szl_le bs.t) (Nat.mul_le_mul_right _ (by omega))
  have e5 := s_sum_form (PG := PG) (n := n - 1) (by omega) (h ++ [.dic (tb nq f.2)]) (f.1, outK f.2 k) (scaleF o (val f.2 k)) (by have := bf.c; have := bs.c; show sz f.1 + _ ≤ _; omega) (by
    have := szl_filter f.2 fun t => decide (t.1 ≠ k)
    show szl (f.2.filter _) + _ ≤ _
    omega) (by
    have : (outK f.2 k).length ≤ f.2.length := List.length_filter_le ..
    show (outK f.2 k).length + _ ≤ _
    omega)
  have ec : ev PG (call PG (n - 1)) c_put_in_1 [some (fm f), some (.str k), some (fm o), some (nq (val f.2 k)), none, none] (h ++ [.dic (tb nq f.2)]) = .ok (.lst ((outK f.2 k).map tm)) (h ++ [.dic (tb nq f.2)]) := by
    refine comp_fl (P := PG) (cl := call PG (n - 1)) (l := []) (g := tm) (xs := f.2) (f := tm) (p := fun t => decide (t.1 ≠ k)) (by simp [body, q_ev_v, q_ev_non, q_ev_bl, q_ev_int, q_ev_str, q_ev_con, q_ev_tup, q_ev_lst, q_ev_bin, q_ev_neg, q_ev_not, q_ev_cmp, q_ev_chain, q_ev_and, q_ev_or, q_ev_ifx, q_ev_ix, q_ev_sl, q_ev_call, q_ev_blt, q_ev_isi, q_ev_met, q_ev_tupS, q_ev_lstS, q_ev_rev, q_ev_dnew, q_ev_dzip, q_ev_fnv, q_ev_calv, q_ev_val, q_evs_nil, q_evs_cons, q_evs_star, q_evD_nil, q_evD_cons, q_evAnd_cons, q_evAnd_cons2, q_evOr_cons, q_evOr_cons2, q_evIfs_none, q_evIfs_some, q_evo_none, q_evo_some, q_evi_ex, q_run1_ex, q_run1_set, q_run1_put, q_run1_aug, q_run1_augs, q_run1_ite, q_run1_whl, q_run1_for, q_run1_ret, q_run1_retN, q_run1_rais, q_run1_try, q_run1_brk, q_run1_cnt, q_run1_pas, q_runs_nil, q_runs_cons, q_runH_nil, q_runH_cons, tst, bltop, bindG, bindGs, cmpop, ofB, truthy, int1, int2, ltop, leop, binop, addop, subop, mulop, divop, modop, powop, ixop, items, litems, ditems, mkLst, mkDic, lenop, intop, isiop, tyOf, putop, src, wipeP, metop, metok, isLst, isDic, isStr, isLsq, appop, popL, getD, slop, revop, tupop, lstop, keyOf, inop, Aes.len, peq, scalP, eqF, isNon, isBl, fm]) chk_nil (small (by omega) (by decide)) (fun t ht => ?_) false
    by_cases e : t.1 = k
    · simp [body, q_ev_v, q_ev_non, q_ev_bl, q_ev_int, q_ev_str, q_ev_con, q_ev_tup, q_ev_lst, q_ev_bin, q_ev_neg, q_ev_not, q_ev_cmp, q_ev_chain, q_ev_and, q_ev_or, q_ev_ifx, q_ev_ix, q_ev_sl, q_ev_call, q_ev_blt, q_ev_isi, q_ev_met, q_ev_tupS, q_ev_lstS, q_ev_rev, q_ev_dnew, q_ev_dzip, q_ev_fnv, q_ev_calv, q_ev_val, q_evs_nil, q_evs_cons, q_evs_star, q_evD_nil, q_evD_cons, q_evAnd_cons, q_evAnd_cons2, q_evOr_cons, q_evOr_cons2, q_evIfs_none, q_evIfs_some, q_evo_none, q_evo_some, q_evi_ex, q_run1_ex, q_run1_set, q_run1_put, q_run1_aug, q_run1_augs, q_run1_ite, q_run1_whl, q_run1_for, q_run1_ret, q_run1_retN, q_run1_rais, q_run1_try, q_run1_brk, q_run1_cnt, q_run1_pas, q_runs_nil, q_runs_cons, q_runH_nil, q_runH_cons, tst, bltop, bindG, bindGs, cmpop, ofB, truthy, int1, int2, ltop, leop, binop, addop, subop, mulop, divop, modop, powop, ixop, items, litems, ditems, mkLst, mkDic, lenop, intop, isiop, tyOf, putop, src, wipeP, metop, metok, isLst, isDic, isStr, isLsq, appop, popL, getD, slop, revop, tupop, lstop, keyOf, inop, Aes.len, peq, scalP, eqF, isNon, isBl, turnC, tm, str_eq, e]
    · simp [body, q_ev_v, q_ev_non, q_ev_bl, q_ev_int, q_ev_str, q_ev_con, q_ev_tup, q_ev_lst, q_ev_bin, q_ev_neg, q_ev_not, q_ev_cmp, q_ev_chain, q_ev_and, q_ev_or, q_ev_ifx, q_ev_ix, q_ev_sl, q_ev_call, q_ev_blt, q_ev_isi, q_ev_met, q_ev_tupS, q_ev_lstS, q_ev_rev, q_ev_dnew, q_ev_dzip, q_ev_fnv, q_ev_calv, q_ev_val, q_evs_nil, q_evs_cons, q_evs_star, q_evD_nil, q_evD_cons, q_evAnd_cons, q_evAnd_cons2, q_evOr_cons, q_evOr_cons2, q_evIfs_none, q_evIfs_some, q_evo_none, q_evo_some, q_evi_ex, q_run1_ex, q_run1_set, q_run1_put, q_run1_aug, q_run1_augs, q_run1_ite, q_run1_whl, q_run1_for, q_run1_ret, q_run1_retN, q_run1_rais, q_run1_try, q_run1_brk, q_run1_cnt, q_run1_pas, q_runs_nil, q_runs_cons, q_runH_nil, q_runH_cons, tst, bltop, bindG, bindGs, cmpop, ofB, truthy, int1, int2, ltop, leop, binop, addop, subop, mulop, divop, modop, powop, ixop, items, litems, ditems, mkLst, mkDic, lenop, intop, isiop, tyOf, putop, src, wipeP, metop, metok, isLst, isDic, isStr, isLsq, appop, popL, getD, slop, revop, tupop, lstop, keyOf, inop, Aes.len, peq, scalP, eqF, isNon, isBl, turnC, tm, str_eq, e]
  have ef : ixop (fm f) (.int 1) h = .ok (.tup (f.2.map tm)) h := by simp [fm, ixop, ditems, keyOf, items]
  have ef0 : ixop (fm f) (.int 0) (h ++ [.dic (tb nq f.2)]) = .ok (nq f.1) (h ++ [.dic (tb nq f.2)]) := by simp [fm, ixop, ditems, keyOf, items]
  have ex : fm (f.1, outK f.2 k) = .tup [nq f.1, .tup ((outK f.2 k).map tm)] := rfl
  rw [putF_eq]
  rw [ex] at e5
  have hg : (kget (tb nq f.2) (.inr k)).getD (nq 0) = nq (val f.2 k) := by
    rw [kget_tb]; unfold val
    cases sget f.2 k <;> rfl
  have ed : dictop (.tup (f.2.map tm)) h = .ok (.ref h.length) (h ++ [.dic (tb nq f.2)]) := by
    unfold dictop
    simp [ditems, items, src, pairs_tm, dict_tm vf.nd, mkDic]
  simp [body, q_ev_v, q_ev_non, q_ev_bl, q_ev_int, q_ev_str, q_ev_con, q_ev_tup, q_ev_lst, q_ev_bin, q_ev_neg, q_ev_not, q_ev_cmp, q_ev_chain, q_ev_and, q_ev_or, q_ev_ifx, q_ev_ix, q_ev_sl, q_ev_call, q_ev_blt, q_ev_isi, q_ev_met, q_ev_tupS, q_ev_lstS, q_ev_rev, q_ev_dnew, q_ev_dzip, q_ev_fnv, q_ev_calv, q_ev_val, q_evs_nil, q_evs_cons, q_evs_star, q_evD_nil, q_evD_cons, q_evAnd_cons, q_evAnd_cons2, q_evOr_cons, q_evOr_cons2, q_evIfs_none, q_evIfs_some, q_evo_none, q_evo_some, q_evi_ex, q_run1_ex, q_run1_set, q_run1_put, q_run1_aug, q_run1_augs, q_run1_ite, q_run1_whl, q_run1_for, q_run1_ret, q_run1_retN, q_run1_rais, q_run1_try, q_run1_brk, q_run1_cnt, q_run1_pas, q_runs_nil, q_runs_cons, q_runH_nil, q_runH_cons, tst, bltop, bindG, bindGs, cmpop, ofB, truthy, int1, int2, ltop, leop, binop, addop, subop, mulop, divop, modop, powop, ixop, items, litems, ditems, mkLst, mkDic, lenop, intop, isiop, tyOf, putop, src, wipeP, metop, metok, isLst, isDic, isStr, isLsq, appop, popL, getD, slop, revop, tupop, lstop, keyOf, inop, Aes.len, peq, scalP, eqF, isNon, isBl, -ixop, f_put_in, e1, e2, e3, ef, ed, ef0, e4, ec, e5, hg, con_zq]
  exact end_rt_app
end Mx.FA

end

section
set_option linter.all false
set_option maxRecDepth 100000
set_option maxHeartbeats 4000000
set_option exponentiation.threshold 20000
namespace Mx.FA
open PySem PySem.Spec PyProof.Rows L2 Mx

/-! what a form has at a point -/
theorem inSeq_strs (h : MH) (k : Str) (ns : List Str) : inSeq h (.str k) (ns.map .str) = some (decide (k ∈ ns)) := by
  unfold inSeq
  rw [if_pos (by simp [flat])]
  congr 1
  induction ns with
  | nil => rfl
  | cons x ns ih =>
    rw [List.map_cons, List.any_cons, ih]
    have : eqF (.str x) (.str k) = decide (x = k) := by
      show (x == k) = _
      by_cases q : x = k
      · subst q; simp
      · simp [q]
    rw [this]
    by_cases e : x = k
    · subst e; simp
    · simp [e, show ¬ k = x from fun q => e q.symm]
theorem keys_strs (ns : List Str) : keysOf (ns.map .str) = some (ns.map Sum.inr) := by
  induction ns with
  | nil => rfl
  | cons x ns ih =>
    rw [List.map_cons]
    unfold keysOf
    rw [ih]; rfl
theorem zip_tb (ns : List Str) (ps : List Rat) : (ns.map (Sum.inr (α := Int))).zip (ps.map nq) = tb nq (ns.zip ps) := by
  induction ns generalizing ps with
  | nil => rfl
  | cons x ns ih =>
    cases ps with
    | nil => rfl
    | cons p ps =>
      show (_, _) :: _ = _ :: _
      congr 1
      exact ih ps
theorem zip_fst {ns : List Str} {ps : List Rat} (h : ns.length = ps.length) : (ns.zip ps).map (·.1) = ns := by
  induction ns generalizing ps with
  | nil => rfl
  | cons x ns ih =>
    cases ps with
    | nil => cases h
    | cons p ps => rw [List.zip_cons_cons, List.map_cons, ih (by simpa using h)]
theorem s_dzip {h : MH} {ns : List Str} {ps : List Rat} (nd : ns.Nodup) (hl : ns.length = ps.length) : dzipop (.tup (ns.map .str)) (.tup (ps.map nq)) h = .ok (.ref h.length) (h ++ [.dic (tb nq (ns.zip ps))]) := by
  unfold dzipop
  simp only [items, keys_strs, zip_tb]
  have : kmerge [] (tb nq (ns.zip ps)) = tb nq (ns.zip ps) := dict_tm (by rw [zip_fst hl]; exact nd)
  rw [this]
  rfl
theorem s_worth {PG : Pg} [Has PG "worth" f_worth] [Has PG "is_number" f_is_number] [Has PG "is_integer" f_is_integer] [Has PG "is_pair" f_is_pair] [Has PG "lowest" f_lowest] [Has PG "check_form" f_check_form] [Has PG "is_form" f_is_form] [Has PG "is_ascending" f_is_ascending] [Has PG "is_term" f_is_term] [Has PG "is_name" f_is_name] [Has PG "worth_at" f_worth_at] [Has PG "product" f_product] [Has PG "sum_of_all" f_sum_of_all] [Has PG "sum_of_two" f_sum_of_two] [HasC PG "LETTERS" (.str "abcdefghijklmnopqrstuvwxyz")] [HasC PG "MOST_NAME" (.int 8)] [HasC PG "ZERO" (.tup [(.int 0), (.int 1)])] {n : Nat} (hn : 6 ≤ n) (h : MH) (f : Form) (ns : List Str) (ps : List Rat) (a b : Nat) (nd : ns.Nodup) (hl : ns.length = ps.length) (vf : VF f) (bf : BF a f) (hp : ∀ p ∈ ps, sz p ≤ b) (hb : 1 ≤ b) (hab : 14 * (a + b + 1) ≤ 8900) (lf : f.2.length ≤ 12) (ln : ns.length ≤ 1000) (hs : ∀ t ∈ f.2, t.1 ∈ ns) : call PG n "worth" [fm f, .tup (ns.map .str), .tup (ps.map nq)] [] [] h = .ok (nq (worthF f (val (ns.zip ps)))) h := by
  rw [call_ge (by omega) rfl]
  have e1 := s_check_form (PG := PG) (n := n - 1) (by omega) h f vf (bf.mono (by omega)) (by omega)
  have ec : ev PG (call PG (n - 1)) c_worth_1 [some (fm f), some (.tup (ns.map .str)), some (.tup (ps.map nq)), none, none, none] h = .ok (.lst (ps.map fun _ => .bl true)) h := by
    refine comp_mp (P := PG) (cl := call PG (n - 1)) (l := []) (g := nq) (xs := ps) (f := fun _ => .bl true) (by simp [body, q_ev_v, q_ev_non, q_ev_bl, q_ev_int, q_ev_str, q_ev_con, q_ev_tup, q_ev_lst, q_ev_bin, q_ev_neg, q_ev_not, q_ev_cmp, q_ev_chain, q_ev_and, q_ev_or, q_ev_ifx, q_ev_ix, q_ev_sl, q_ev_call, q_ev_blt, q_ev_isi, q_ev_met, q_ev_tupS, q_ev_lstS, q_ev_rev, q_ev_dnew, q_ev_dzip, q_ev_fnv, q_ev_calv, q_ev_val, q_evs_nil, q_evs_cons, q_evs_star, q_evD_nil, q_evD_cons, q_evAnd_cons, q_evAnd_cons2, q_evOr_cons, q_evOr_cons2, q_evIfs_none, q_evIfs_some, q_evo_none, q_evo_some, q_evi_ex, q_run1_ex, q_run1_set, q_run1_put, q_run1_aug, q_run1_augs, q_run1_ite, q_run1_whl, q_run1_for, q_run1_ret, q_run1_retN, q_run1_rais, q_run1_try, q_run1_brk, q_run1_cnt, q_run1_pas, q_runs_nil, q_runs_cons, q_runH_nil, q_runH_cons, tst, bltop, bindG, bindGs, cmpop, ofB, truthy, int1, int2, ltop, leop, binop, addop, subop, mulop, divop, modop, powop, ixop, items, litems, ditems, mkLst, mkDic, lenop, intop, isiop, tyOf, putop, src, wipeP, metop, metok, isLst, isDic, isStr, isLsq, appop, popL, getD, slop, revop, tupop, lstop, keyOf, inop, Aes.len, peq, scalP, eqF, isNon, isBl]) chk_nil (small (by omega) (Nat.le_refl _)) (fun t ht => ?_) false
    have e := s_is_nq (PG := PG) (n := n - 1) (by omega) h t (by have := hp t ht; omega)
    simp [body, q_ev_v, q_ev_non, q_ev_bl, q_ev_int, q_ev_str, q_ev_con, q_ev_tup, q_ev_lst, q_ev_bin, q_ev_neg, q_ev_not, q_ev_cmp, q_ev_chain, q_ev_and, q_ev_or, q_ev_ifx, q_ev_ix, q_ev_sl, q_ev_call, q_ev_blt, q_ev_isi, q_ev_met, q_ev_tupS, q_ev_lstS, q_ev_rev, q_ev_dnew, q_ev_dzip, q_ev_fnv, q_ev_calv, q_ev_val, q_evs_nil, q_evs_cons, q_evs_star, q_evD_nil, q_evD_cons, q_evAnd_cons, q_evAnd_cons2, q_evOr_cons, q_evOr_cons2, q_evIfs_none, q_evIfs_some, q_evo_none, q_evo_some, q_evi_ex, q_run1_ex, q_run1_set, q_run1_put, q_run1_aug, q_run1_augs, q_run1_ite, q_run1_whl, q_run1_for, q_run1_ret, q_run1_retN, q_run1_rais, q_run1_try, q_run1_brk, q_run1_cnt, q_run1_pas, q_runs_nil, q_runs_cons, q_runH_nil, q_runH_cons, tst, bltop, bindG, bindGs, cmpop, ofB, truthy, int1, int2, ltop, leop, binop, addop, subop, mulop, divop, modop, powop, ixop, items, litems, ditems, mkLst, mkDic, lenop, intop, isiop, tyOf, putop, src, wipeP, metop, metok, isLst, isDic, isStr, isLsq, appop, popL, getD, slop, revop, tupop, lstop, keyOf, inop, Aes.len, peq, scalP, eqF, isNon, isBl, turnC, e]
  have ea : allB (ps.map fun _ => PV.bl true) = some (ps.map fun _ => true) := allB_map (f := fun _ => true)
  have eb : boolsop (fun bs => bs.all id) (.lst (ps.map fun _ => PV.bl true)) h = .ok (.bl true) h := by
    unfold boolsop
    simp only [litems, ea]
    simp
  have el : ∃ w w', run1 PG (call PG (n - 1)) l_worth_2 [some (fm f), some (.tup (ns.map .str)), some (.tup (ps.map nq)), none, none, none] h = .nx [some (fm f), some (.tup (ns.map .str)), some (.tup (ps.map nq)), none, w, w'] h := by
    have := for_fold (α := Tm) (g := tm) (l := []) (body := turnF PG (call PG (n - 1)) (.tp (.cons (.nm 4) (.cons (.nm 5) .nil))) (.cons (.ite (.cmp .nin (.v 4) (.v 1)) (.cons (.rais "InvalidName" (.v 4) false) .nil) .nil) .nil))
      (E := fun (s : Option PV × Option PV) => [some (fm f), some (.tup (ns.map .str)), some (.tup (ps.map nq)), none, s.1, s.2]) (H := fun _ => h) (st := fun _ p => (some (.str p.1), some (nq p.2))) (fun xs _ => ∀ t ∈ xs, t.1 ∈ ns) (fun _ => chk_nil) (fun x xs s j => by
        have e := inSeq_strs h x.1 ns
        rw [decide_eq_true (j x List.mem_cons_self)] at e
        refine ⟨?_, fun y hy => j y (List.mem_cons_of_mem _ hy)⟩
        simp [body, q_ev_v, q_ev_non, q_ev_bl, q_ev_int, q_ev_str, q_ev_con, q_ev_tup, q_ev_lst, q_ev_bin, q_ev_neg, q_ev_not, q_ev_cmp, q_ev_chain, q_ev_and, q_ev_or, q_ev_ifx, q_ev_ix, q_ev_sl, q_ev_call, q_ev_blt, q_ev_isi, q_ev_met, q_ev_tupS, q_ev_lstS, q_ev_rev, q_ev_dnew, q_ev_dzip, q_ev_fnv, q_ev_calv, q_ev_val, q_evs_nil, q_evs_cons, q_evs_star, q_evD_nil, q_evD_cons, q_evAnd_cons, q_evAnd_cons2, q_evOr_cons, q_evOr_cons2, q_evIfs_none, q_evIfs_some, q_evo_none, q_evo_some, q_evi_ex, q_run1_ex, q_run1_set, q_run1_put, q_run1_aug, q_run1_augs, q_run1_ite, q_run1_whl, q_run1_for, q_run1_ret, q_run1_retN, q_run1_rais, q_run1_try, q_run1_brk, q_run1_cnt, q_run1_pas, q_runs_nil, q_runs_cons, q_runH_nil, q_runH_cons, tst, bltop, bindG, bindGs, cmpop, ofB, truthy, int1, int2, ltop, leop, binop, addop, subop, mulop, divop, modop, powop, ixop, items, litems, ditems, mkLst, mkDic, lenop, intop, isiop, tyOf, putop, src, wipeP, metop, metok, isLst, isDic, isStr, isLsq, appop, popL, getD, slop, revop, tupop, lstop, keyOf, inop, Aes.len, peq, scalP, eqF, isNon, isBl, turnF, tm, e]) f.2 (none, none) hs
    exact ⟨_, _, (for_run rfl (by simp [body, q_ev_v, q_ev_non, q_ev_bl, q_ev_int, q_ev_str, q_ev_con, q_ev_tup, q_ev_lst, q_ev_bin, q_ev_neg, q_ev_not, q_ev_cmp, q_ev_chain, q_ev_and, q_ev_or, q_ev_ifx, q_ev_ix, q_ev_sl, q_ev_call, q_ev_blt, q_ev_isi, q_ev_met, q_ev_tupS, q_ev_lstS, q_ev_rev, q_ev_dnew, q_ev_dzip, q_ev_fnv, q_ev_calv, q_ev_val, q_evs_nil, q_evs_cons, q_evs_star, q_evD_nil, q_evD_cons, q_evAnd_cons, q_evAnd_cons2, q_evOr_cons, q_evOr_cons2, q_evIfs_none, q_evIfs_some, q_evo_none, q_evo_some, q_evi_ex, q_run1_ex, q_run1_set, q_run1_put, q_run1_aug, q_run1_augs, q_run1_ite, q_run1_whl, q_run1_for, q_run1_ret, q_run1_retN, q_run1_rais, q_run1_try, q_run1_brk, q_run1_cnt, q_run1_pas, q_runs_nil, q_runs_cons, q_runH_nil, q_runH_cons, tst, bltop, bindG, bindGs, cmpop, ofB, truthy, int1, int2, ltop, leop, binop, addop, subop, mulop, divop, modop, powop, ixop, items, litems, ditems, mkLst, mkDic, lenop, intop, isiop, tyOf, putop, src, wipeP, metop, metok, isLst, isDic, isStr, isLsq, appop, popL, getD, slop, revop, tupop, lstop, keyOf, inop, Aes.len, peq, scalP, eqF, isNon, isBl, fm])).trans this⟩
  obtain ⟨w, w', el⟩ := el
  have hv : ∀ x, sz (val (ns.zip ps) x) ≤ b := fun x => val_bound (fun p hp' => hp p.2 (List.of_mem_zip hp').2) hb x
  have kz : ∀ t ∈ f.2, sz (t.2 * val (ns.zip ps) t.1) ≤ a + b := fun t ht => by
    have := sz_mul t.2 (val (ns.zip ps) t.1); have := bf.t t ht; have := hv t.1; omega
  have e2 := s_worth_at (PG := PG) (n := n - 1) (by omega) (h ++ [.dic (tb nq (ns.zip ps))]) f (.ref h.length) (val (ns.zip ps)) (fun t ht => by
    have hm : t.1 ∈ (ns.zip ps).map (·.1) := by rw [zip_fst hl]; exact hs t ht
    obtain ⟨x, hx⟩ := sget_mem hm
    have e3 : kget (tb nq (ns.zip ps)) (.inr t.1) = some (nq (val (ns.zip ps) t.1)) := by rw [kget_tb]; unfold val; rw [hx]; rfl
    simp [ixop, ditems, keyOf, e3]) (fun t ht => by have := bf.t t ht; have := hv t.1; omega) (by
    have := szs_le (rs := f.2.map fun t => t.2 * val (ns.zip ps) t.1) (k := a + b) (fun r hr => by
      obtain ⟨t, ht, rfl⟩ := List.mem_map.mp hr
      exact kz t ht)
    rw [List.length_map] at this
    have := Nat.mul_le_mul_right (a + b + 1) lf
    have := bf.c
    omega) (by omega)
  have ez := s_dzip (h := h) nd hl
  simp [body, q_ev_v, q_ev_non, q_ev_bl, q_ev_int, q_ev_str, q_ev_con, q_ev_tup, q_ev_lst, q_ev_bin, q_ev_neg, q_ev_not, q_ev_cmp, q_ev_chain, q_ev_and, q_ev_or, q_ev_ifx, q_ev_ix, q_ev_sl, q_ev_call, q_ev_blt, q_ev_isi, q_ev_met, q_ev_tupS, q_ev_lstS, q_ev_rev, q_ev_dnew, q_ev_dzip, q_ev_fnv, q_ev_calv, q_ev_val, q_evs_nil, q_evs_cons, q_evs_star, q_evD_nil, q_evD_cons, q_evAnd_cons, q_evAnd_cons2, q_evOr_cons, q_evOr_cons2, q_evIfs_none, q_evIfs_some, q_evo_none, q_evo_some, q_evi_ex, q_run1_ex, q_run1_set, q_run1_put, q_run1_aug, q_run1_augs, q_run1_ite, q_run1_whl, q_run1_for, q_run1_ret, q_run1_retN, q_run1_rais, q_run1_try, q_run1_brk, q_run1_cnt, q_run1_pas, q_runs_nil, q_runs_cons, q_runH_nil, q_runH_cons, tst, bltop, bindG, bindGs, cmpop, ofB, truthy, int1, int2, ltop, leop, binop, addop, subop, mulop, divop, modop, powop, ixop, items, litems, ditems, mkLst, mkDic, lenop, intop, isiop, tyOf, putop, src, wipeP, metop, metok, isLst, isDic, isStr, isLsq, appop, popL, getD, slop, revop, tupop, lstop, keyOf, inop, Aes.len, peq, scalP, eqF, isNon, isBl, f_worth, e1, hl, ec, eb, el, ez, e2]
  exact end_rt_app
/-! sums over terms -/
def W (ts : List Tm) (e : Str → Rat) : Rat := match ts with
  | [] => 0
  | t :: ts => t.2 * e t.1 + W ts e
theorem rsum_cons (a : Rat) (rs : List Rat) : rsum (a :: rs) = a + rsum rs := by
  have key : ∀ (rs : List Rat) (x y : Rat), rs.foldl (· + ·) (x + y) = x + rs.foldl (· + ·) y := by
    intro rs
    induction rs with
    | nil => intro x y; rfl
    | cons r rs ih => intro x y; rw [List.foldl_cons, List.foldl_cons, Rat.add_assoc, ih]
  unfold rsum
  rw [List.foldl_cons, Rat.zero_add]
  have := key rs a 0
  rw [Rat.add_zero] at this
  exact this
theorem rsum_W (ts : List Tm) (e : Str → Rat) : rsum (ts.map fun t => t.2 * e t.1) = W ts e := by
  induction ts with
  | nil => rfl
  | cons t ts ih => rw [List.map_cons, rsum_cons, ih]; rfl
theorem worthF_W (f : Form) (e : Str → Rat) : worthF f e = f.1 + W f.2 e := by
  unfold worthF; rw [rsum_cons, rsum_W]
theorem W_app (a b : List Tm) (e : Str → Rat) : W (a ++ b) e = W a e + W b e := by
  induction a with
  | nil => show W b e = 0 + _; rw [Rat.zero_add]
  | cons t a ih => show t.2 * e t.1 + W (a ++ b) e = t.2 * e t.1 + W a e + W b e; rw [ih, Rat.add_assoc]
theorem W_perm {a b : List Tm} (h : a.Perm b) (e : Str → Rat) : W a e = W b e := by
  induction h with
  | nil => rfl
  | cons x _ ih => show _ + _ = _ + _; rw [ih]
  | swap x y l => show y.2 * e y.1 + (x.2 * e x.1 + W l e) = x.2 * e x.1 + (y.2 * e y.1 + W l e); grind
  | trans _ _ a b => rw [a, b]
theorem W_scale (ts : List Tm) (q : Rat) (e : Str → Rat) : W (ts.map fun t => (t.1, t.2 * q)) e = W ts e * q := by
  induction ts with
  | nil => show (0 : Rat) = 0 * q; rw [Rat.zero_mul]
  | cons t ts ih => show t.2 * q * e t.1 + W _ e = (t.2 * e t.1 + W ts e) * q; rw [ih]; grind
theorem W_congr {ts : List Tm} {e e' : Str → Rat} (h : ∀ t ∈ ts, e t.1 = e' t.1) : W ts e = W ts e' := by
  induction ts with
  | nil => rfl
  | cons t ts ih => show _ + _ = _ + _; rw [h t List.mem_cons_self, ih fun x hx => h x (List.mem_cons_of_mem _ hx)]
/-- over names without doubles -/
def WN (ns : List Str) (v e : Str → Rat) : Rat := match ns with
  | [] => 0
  | k :: ns => v k * e k + WN ns v e
theorem WN_map (ns : List Str) (v e : Str → Rat) : W (ns.map fun k => (k, v k)) e = WN ns v e := by
  induction ns with
  | nil => rfl
  | cons k ns ih => show _ + _ = _ + _; rw [← ih]
theorem WN_add (ns : List Str) (v w e : Str → Rat) : WN ns (fun k => v k + w k) e = WN ns v e + WN ns w e := by
  induction ns with
  | nil => show (0 : Rat) = 0 + 0; rw [Rat.add_zero]
  | cons k ns ih => show (v k + w k) * e k + WN ns _ e = v k * e k + WN ns v e + (w k * e k + WN ns w e); rw [ih]; grind
theorem WN_zero (ns : List Str) (e : Str → Rat) : WN ns (fun _ => 0) e = 0 := by
  induction ns with
  | nil => rfl
  | cons k ns ih => show 0 * e k + WN ns _ e = 0; rw [ih]; grind
theorem WN_congr {ns : List Str} {v w e : Str → Rat} (h : ∀ k ∈ ns, v k = w k) : WN ns v e = WN ns w e := by
  induction ns with
  | nil => rfl
  | cons k ns ih => show _ + _ = _ + _; rw [h k List.mem_cons_self, ih fun x hx => h x (List.mem_cons_of_mem _ hx)]
/-- one name alone -/
theorem WN_one {ns : List Str} (nd : ns.Nodup) {k : Str} (hk : k ∈ ns) (r : Rat) (e : Str → Rat) : WN ns (fun x => if x = k then r else 0) e = r * e k := by
  induction ns with
  | nil => cases hk
  | cons x ns ih =>
    rw [List.nodup_cons] at nd
    show (if x = k then r else 0) * e x + WN ns _ e = _
    by_cases q : x = k
    · subst q
      rw [if_pos rfl, WN_congr (w := fun _ => 0) fun y hy => if_neg (fun q : y = x => nd.1 (q ▸ hy)), WN_zero, Rat.add_zero]
    · rw [if_neg q, ih nd.2 (by rcases List.mem_cons.mp hk with r | r; exact absurd r.symm q; exact r)]
      grind
/-- terms are told by what they come to, name by name -/
theorem W_tot (ts : List Tm) (e : Str → Rat) : ∀ {ns : List Str}, ns.Nodup → (∀ t ∈ ts, t.1 ∈ ns) → W ts e = WN ns (tot ts) e := by
  induction ts with
  | nil => intro ns _ _; exact (WN_zero ns e).symm
  | cons t ts ih =>
    intro ns nd h
    have e1 : tot (t :: ts) = fun k => (if k = t.1 then t.2 else 0) + tot ts k := rfl
    rw [e1, WN_add, WN_one nd (h t List.mem_cons_self), ← ih nd fun x hx => h x (List.mem_cons_of_mem _ hx)]
    rfl
theorem W_form (c : Rat) (ts : List Tm) (e : Str → Rat) : W (formOf c ts).2 e = W ts e := by
  have nd := tabOf_nodup ts
  have v : ((formOf c ts).2.map (·.1)).Nodup := by
    unfold formOf lain
    rw [List.map_map]
    have : ((fun x : Str × Rat => x.1) ∘ fun k => (k, val (tabOf ts) k)) = id := rfl
    rw [this, List.map_id]
    refine List.Pairwise.filter _ ?_
    exact (List.mergeSort_perm _ leS).nodup_iff.mpr nd
  rw [W_tot ts e nd fun t ht => tabOf_keys.mpr (List.mem_map.mpr ⟨t, ht, rfl⟩),
    W_tot (formOf c ts).2 e nd fun t ht => tabOf_keys.mpr (formOf_mem (List.mem_map.mpr ⟨t, ht, rfl⟩))]
  refine WN_congr fun k _ => ?_
  rw [tot_val v, val_formOf]
theorem worthF_form (c : Rat) (ts : List Tm) (e : Str → Rat) : worthF (formOf c ts) e = c + W ts e := by
  rw [worthF_W, W_form]; rfl
theorem worthF_sum (f g : Form) (e : Str → Rat) : worthF (sumF f g) e = worthF f e + worthF g e := by
  unfold sumF
  rw [worthF_form, W_app, worthF_W, worthF_W]; grind
theorem worthF_scale (f : Form) (q : Rat) (e : Str → Rat) : worthF (scaleF f q) e = worthF f e * q := by
  unfold scaleF
  rw [worthF_form, W_scale, worthF_W]; grind
theorem W_outK {ts : List Tm} (nd : (ts.map (·.1)).Nodup) (k : Str) (e : Str → Rat) : W ts e = val ts k * e k + W (outK ts k) e := by
  induction ts with
  | nil => show (0 : Rat) = 0 * e k + 0; grind
  | cons t ts ih =>
    rw [List.map_cons, List.nodup_cons] at nd
    have := ih nd.2
    rw [val_cons]
    unfold outK at this ⊢
    rw [List.filter_cons]
    by_cases q : t.1 = k
    · subst q
      rw [val_not nd.1] at this
      rw [if_pos rfl, if_neg (by simp)]
      show t.2 * e t.1 + W ts e = _
      rw [this]; grind
    · rw [if_neg fun r => q r.symm, if_pos (by simpa using q)]
      show t.2 * e t.1 + W ts e = _ + (t.2 * e t.1 + W _ e)
      rw [this]; grind
theorem worthF_put {f o : Form} (vf : VF f) (k : Str) (e : Str → Rat) : worthF (putF f k o) e = worthF f fun x => if x = k then worthF o e else e x := by
  rw [putF_eq, worthF_sum, worthF_scale, worthF_W (f.1, outK f.2 k), worthF_W f, W_outK vf.nd k]
  have : W (outK f.2 k) (fun x => if x = k then worthF o e else e x) = W (outK f.2 k) e := W_congr fun t ht => if_neg (by
    have := (List.mem_filter.mp ht).2
    simpa using this)
  rw [this, if_pos rfl]
  grind
end Mx.FA

end

section
set_option linter.all false
set_option maxRecDepth 100000
set_option maxHeartbeats 4000000
set_option exponentiation.threshold 20000
namespace Mx.FA
open PySem PySem.Spec PyProof.Rows L2 Mx

/-! what the laws draw -/
def DK (o : MO) : Prop := ∃ a b : Int, 0 ≤ a ∧ 0 ≤ b ∧ b < 2 ^ 64 ∧ o = .lst [.int a, .int b]
theorem DK.below : ∀ o, DK o → ∀ k, belowO k o := fun o ⟨a, b, _, _, _, e⟩ k => by
  subst e
  exact ⟨trivial, trivial, trivial⟩
/-- the deck stands at m -/
def Dk (h : MH) (m : Nat) : Prop := ∃ o, h[m]? = some o ∧ DK o
theorem Dk.chg {h : MH} {m : Nat} (d : Dk h m) : Chg DK m h h := by
  obtain ⟨o, e, i⟩ := d
  exact Chg.refl e i
theorem Dk.lt {h : MH} {m : Nat} (d : Dk h m) : m < h.length := by
  obtain ⟨o, e, i⟩ := d
  exact (List.getElem?_eq_some_iff.mp e).1
theorem _root_.Mx.Chg.dk {h h' : MH} {m : Nat} (c : Chg DK m h h') : Dk h' m := c.at_
theorem Dk.app {h : MH} {m : Nat} (d : Dk h m) (e : MH) : Dk (h ++ e) m := by
  obtain ⟨o, q, i⟩ := d
  exact ⟨o, by rw [List.getElem?_append_left (List.getElem?_eq_some_iff.mp q).1]; exact q, i⟩
theorem fit2 {i j : Int} {k m : Nat} (h1 : i.natAbs < 2 ^ k) (h2 : j.natAbs < 2 ^ m) (h : k + m ≤ 900000 := by decide) : fits i j := fits_z h1 h2 h
theorem s_take {PG : Pg} [Has PG "_law_take" f_law_take] {n : Nat} (hn : 1 ≤ n) (h : MH) {m : Nat} (many : Int) (hD : Dk h m) (h1 : 1 ≤ many) (h2 : many ≤ 2 ^ 64) :
    ∃ t h', call PG n "_law_take" [.ref m, .int many] [] [] h = .ok (.int t) h' ∧ 0 ≤ t ∧ t < many ∧ Chg DK m h h' := by
  have hlt := hD.lt
  obtain ⟨o, hn', a, b, ha, hb, hb2, rfl⟩ := hD
  rw [call_ge (by omega) rfl]
  have hm : many ≠ 0 := by omega
  have f1 : fitd many := fitd_z (k := 65) (by omega) (by decide)
  have f2 : fits b 6364136223846793005 := fit2 (k := 64) (m := 64) (by omega) (by decide)
  have f3 : fitd 8589934592 := fitd_z (k := 64) (by decide) (by decide)
  have hs : ∀ o, (h.set m o)[m]? = some o := fun o => List.getElem?_set_self hlt
  by_cases hp : 0 < a
  · refine ⟨a.fmod many, h.set m (.lst [.int (a.fdiv many), .int b]), ?_, Int.fmod_nonneg_of_pos _ (by omega), Int.fmod_lt_of_pos _ (by omega), Chg.set hlt ⟨_, _, Int.fdiv_nonneg ha (by omega), hb, hb2, rfl⟩⟩
    simp [body, q_ev_v, q_ev_non, q_ev_bl, q_ev_int, q_ev_str, q_ev_con, q_ev_tup, q_ev_lst, q_ev_bin, q_ev_neg, q_ev_not, q_ev_cmp, q_ev_chain, q_ev_and, q_ev_or, q_ev_ifx, q_ev_ix, q_ev_sl, q_ev_call, q_ev_blt, q_ev_isi, q_ev_met, q_ev_tupS, q_ev_lstS, q_ev_rev, q_ev_dnew, q_ev_dzip, q_ev_fnv, q_ev_calv, q_ev_val, q_evs_nil, q_evs_cons, q_evs_star, q_evD_nil, q_evD_cons, q_evAnd_cons, q_evAnd_cons2, q_evOr_cons, q_evOr_cons2, q_evIfs_none, q_evIfs_some, q_evo_none, q_evo_some, q_evi_ex, q_run1_ex, q_run1_set, q_run1_put, q_run1_aug, q_run1_augs, q_run1_ite, q_run1_whl, q_run1_for, q_run1_ret, q_run1_retN, q_run1_rais, q_run1_try, q_run1_brk, q_run1_cnt, q_run1_pas, q_runs_nil, q_runs_cons, q_runH_nil, q_runH_cons, tst, bltop, bindG, bindGs, cmpop, ofB, truthy, int1, int2, ltop, leop, binop, addop, subop, mulop, divop, modop, powop, ixop, items, litems, ditems, mkLst, mkDic, lenop, intop, isiop, tyOf, putop, src, wipeP, metop, metok, isLst, isDic, isStr, isLsq, appop, popL, getD, slop, revop, tupop, lstop, keyOf, inop, Aes.len, peq, scalP, eqF, isNon, isBl, f_law_take, hn', hp, hm, f1, hs]
    exact res_rt (leave_len (by simp) fun k e => by cases e)
  · refine ⟨(((b * 6364136223846793005 + 1442695040888963407).fmod 18446744073709551616).fdiv 8589934592).fmod many, h.set m (.lst [.int a, .int ((b * 6364136223846793005 + 1442695040888963407).fmod 18446744073709551616)]), ?_, Int.fmod_nonneg_of_pos _ (by omega), Int.fmod_lt_of_pos _ (by omega), Chg.set hlt ⟨_, _, ha, Int.fmod_nonneg_of_pos _ (by decide), Int.fmod_lt_of_pos _ (by decide), rfl⟩⟩
    simp [body, q_ev_v, q_ev_non, q_ev_bl, q_ev_int, q_ev_str, q_ev_con, q_ev_tup, q_ev_lst, q_ev_bin, q_ev_neg, q_ev_not, q_ev_cmp, q_ev_chain, q_ev_and, q_ev_or, q_ev_ifx, q_ev_ix, q_ev_sl, q_ev_call, q_ev_blt, q_ev_isi, q_ev_met, q_ev_tupS, q_ev_lstS, q_ev_rev, q_ev_dnew, q_ev_dzip, q_ev_fnv, q_ev_calv, q_ev_val, q_evs_nil, q_evs_cons, q_evs_star, q_evD_nil, q_evD_cons, q_evAnd_cons, q_evAnd_cons2, q_evOr_cons, q_evOr_cons2, q_evIfs_none, q_evIfs_some, q_evo_none, q_evo_some, q_evi_ex, q_run1_ex, q_run1_set, q_run1_put, q_run1_aug, q_run1_augs, q_run1_ite, q_run1_whl, q_run1_for, q_run1_ret, q_run1_retN, q_run1_rais, q_run1_try, q_run1_brk, q_run1_cnt, q_run1_pas, q_runs_nil, q_runs_cons, q_runH_nil, q_runH_cons, tst, bltop, bindG, bindGs, cmpop, ofB, truthy, int1, int2, ltop, leop, binop, addop, subop, mulop, divop, modop, powop, ixop, items, litems, ditems, mkLst, mkDic, lenop, intop, isiop, tyOf, putop, src, wipeP, metop, metok, isLst, isDic, isStr, isLsq, appop, popL, getD, slop, revop, tupop, lstop, keyOf, inop, Aes.len, peq, scalP, eqF, isNon, isBl, f_law_take, hn', hp, hm, f1, f2, f3, hs]
    exact res_rt (leave_len (by simp) fun k e => by cases e)
/-! fractions that the laws reckon -/
theorem gcd_loop {PG : Pg} (cl : Calls) (h : MH) : ∀ (N : Nat) (m n : Int), 0 ≤ m → 0 ≤ n → n.natAbs ≤ N → ∃ f, whlN (tst PG cl (.cmp .ne (.v 1) (.int 0))) (runs PG cl (.cons (.set (.tp (.cons (.nm 0) (.cons (.nm 1) .nil))) (.tup (.cons (.v 1) (.cons (.bin .mod false (.blt .int false (.cons (.v 0) .nil)) (.v 1)) .nil)))) .nil)) f [some (.int m), some (.int n)] h = .nx [some (.int (Nat.gcd m.natAbs n.natAbs : Nat)), some (.int 0)] h
  | N, m, n, hm, hn, hN => by
    by_cases h0 : n = 0
    · subst h0
      refine ⟨1, ?_⟩
      rw [whlN_step]
      simp [body, q_ev_v, q_ev_non, q_ev_bl, q_ev_int, q_ev_str, q_ev_con, q_ev_tup, q_ev_lst, q_ev_bin, q_ev_neg, q_ev_not, q_ev_cmp, q_ev_chain, q_ev_and, q_ev_or, q_ev_ifx, q_ev_ix, q_ev_sl, q_ev_call, q_ev_blt, q_ev_isi, q_ev_met, q_ev_tupS, q_ev_lstS, q_ev_rev, q_ev_dnew, q_ev_dzip, q_ev_fnv, q_ev_calv, q_ev_val, q_evs_nil, q_evs_cons, q_evs_star, q_evD_nil, q_evD_cons, q_evAnd_cons, q_evAnd_cons2, q_evOr_cons, q_evOr_cons2, q_evIfs_none, q_evIfs_some, q_evo_none, q_evo_some, q_evi_ex, q_run1_ex, q_run1_set, q_run1_put, q_run1_aug, q_run1_augs, q_run1_ite, q_run1_whl, q_run1_for, q_run1_ret, q_run1_retN, q_run1_rais, q_run1_try, q_run1_brk, q_run1_cnt, q_run1_pas, q_runs_nil, q_runs_cons, q_runH_nil, q_runH_cons, tst, bltop, bindG, bindGs, cmpop, ofB, truthy, int1, int2, ltop, leop, binop, addop, subop, mulop, divop, modop, powop, ixop, items, litems, ditems, mkLst, mkDic, lenop, intop, isiop, tyOf, putop, src, wipeP, metop, metok, isLst, isDic, isStr, isLsq, appop, popL, getD, slop, revop, tupop, lstop, keyOf, inop, Aes.len, peq, scalP, eqF, isNon, isBl]
      omega
    · cases N with
      | zero => omega
      | succ N =>
        have hlt := Int.fmod_lt_of_pos m (show 0 < n by omega)
        have hge := Int.fmod_nonneg_of_pos m (show 0 < n by omega)
        obtain ⟨f, e⟩ := gcd_loop (PG := PG) cl h N n (m.fmod n) hn hge (by omega)
        refine ⟨f + 1, ?_⟩
        rw [whlN_step]
        have e2 : tst PG cl (.cmp .ne (.v 1) (.int 0)) [some (.int m), some (.int n)] h = .ok true h := by
          simp [body, q_ev_v, q_ev_non, q_ev_bl, q_ev_int, q_ev_str, q_ev_con, q_ev_tup, q_ev_lst, q_ev_bin, q_ev_neg, q_ev_not, q_ev_cmp, q_ev_chain, q_ev_and, q_ev_or, q_ev_ifx, q_ev_ix, q_ev_sl, q_ev_call, q_ev_blt, q_ev_isi, q_ev_met, q_ev_tupS, q_ev_lstS, q_ev_rev, q_ev_dnew, q_ev_dzip, q_ev_fnv, q_ev_calv, q_ev_val, q_evs_nil, q_evs_cons, q_evs_star, q_evD_nil, q_evD_cons, q_evAnd_cons, q_evAnd_cons2, q_evOr_cons, q_evOr_cons2, q_evIfs_none, q_evIfs_some, q_evo_none, q_evo_some, q_evi_ex, q_run1_ex, q_run1_set, q_run1_put, q_run1_aug, q_run1_augs, q_run1_ite, q_run1_whl, q_run1_for, q_run1_ret, q_run1_retN, q_run1_rais, q_run1_try, q_run1_brk, q_run1_cnt, q_run1_pas, q_runs_nil, q_runs_cons, q_runH_nil, q_runH_cons, tst, bltop, bindG, bindGs, cmpop, ofB, truthy, int1, int2, ltop, leop, binop, addop, subop, mulop, divop, modop, powop, ixop, items, litems, ditems, mkLst, mkDic, lenop, intop, isiop, tyOf, putop, src, wipeP, metop, metok, isLst, isDic, isStr, isLsq, appop, popL, getD, slop, revop, tupop, lstop, keyOf, inop, Aes.len, peq, scalP, eqF, isNon, isBl, h0]
        have e3 : runs PG cl (.cons (.set (.tp (.cons (.nm 0) (.cons (.nm 1) .nil))) (.tup (.cons (.v 1) (.cons (.bin .mod false (.blt .int false (.cons (.v 0) .nil)) (.v 1)) .nil)))) .nil) [some (.int m), some (.int n)] h = .nx [some (.int n), some (.int (m.fmod n))] h := by
          simp [body, q_ev_v, q_ev_non, q_ev_bl, q_ev_int, q_ev_str, q_ev_con, q_ev_tup, q_ev_lst, q_ev_bin, q_ev_neg, q_ev_not, q_ev_cmp, q_ev_chain, q_ev_and, q_ev_or, q_ev_ifx, q_ev_ix, q_ev_sl, q_ev_call, q_ev_blt, q_ev_isi, q_ev_met, q_ev_tupS, q_ev_lstS, q_ev_rev, q_ev_dnew, q_ev_dzip, q_ev_fnv, q_ev_calv, q_ev_val, q_evs_nil, q_evs_cons, q_evs_star, q_evD_nil, q_evD_cons, q_evAnd_cons, q_evAnd_cons2, q_evOr_cons, q_evOr_cons2, q_evIfs_none, q_evIfs_some, q_evo_none, q_evo_some, q_evi_ex, q_run1_ex, q_run1_set, q_run1_put, q_run1_aug, q_run1_augs, q_run1_ite, q_run1_whl, q_run1_for, q_run1_ret, q_run1_retN, q_run1_rais, q_run1_try, q_run1_brk, q_run1_cnt, q_run1_pas, q_runs_nil, q_runs_cons, q_runH_nil, q_runH_cons, tst, bltop, bindG, bindGs, cmpop, ofB, truthy, int1, int2, ltop, leop, binop, addop, subop, mulop, divop, modop, powop, ixop, items, litems, ditems, mkLst, mkDic, lenop, intop, isiop, tyOf, putop, src, wipeP, metop, metok, isLst, isDic, isStr, isLsq, appop, popL, getD, slop, revop, tupop, lstop, keyOf, inop, Aes.len, peq, scalP, eqF, isNon, isBl, h0]
        rw [e2, Res.out_ok, if_pos rfl, e3, Out.turn_nx, e]
        have e4 : Nat.gcd n.natAbs (m.fmod n).natAbs = Nat.gcd m.natAbs n.natAbs := by
          have : m.fmod n = ((m.natAbs % n.natAbs : Nat) : Int) := by
            rw [Int.fmod_eq_emod_of_nonneg _ hn]
            obtain ⟨m', rfl⟩ := Int.eq_ofNat_of_zero_le hm
            obtain ⟨n', rfl⟩ := Int.eq_ofNat_of_zero_le hn
            rfl
          rw [this, Int.natAbs_natCast, Nat.gcd_comm m.natAbs, Nat.gcd_rec n.natAbs m.natAbs]
          exact Nat.gcd_comm _ _
        rw [e4]
theorem s_gcd {PG : Pg} [Has PG "_law_gcd" f_law_gcd] {n : Nat} (hn : 1 ≤ n) (h : MH) (a b : Int) (ha : 0 ≤ a) (hb : 0 ≤ b) : call PG n "_law_gcd" [.int a, .int b] [] [] h = .ok (.int (Nat.gcd a.natAbs b.natAbs : Nat)) h := by
  rw [call_ge (by omega) rfl]
  obtain ⟨f, e⟩ := gcd_loop (PG := PG) (call PG (n - 1)) h b.natAbs a b ha hb (Nat.le_refl _)
  have e1 := whl_run (s := w_law_gcd_1) (P := PG) (cl := call PG (n - 1)) rfl e (by simp)
  simp [body, q_ev_v, q_ev_non, q_ev_bl, q_ev_int, q_ev_str, q_ev_con, q_ev_tup, q_ev_lst, q_ev_bin, q_ev_neg, q_ev_not, q_ev_cmp, q_ev_chain, q_ev_and, q_ev_or, q_ev_ifx, q_ev_ix, q_ev_sl, q_ev_call, q_ev_blt, q_ev_isi, q_ev_met, q_ev_tupS, q_ev_lstS, q_ev_rev, q_ev_dnew, q_ev_dzip, q_ev_fnv, q_ev_calv, q_ev_val, q_evs_nil, q_evs_cons, q_evs_star, q_evD_nil, q_evD_cons, q_evAnd_cons, q_evAnd_cons2, q_evOr_cons, q_evOr_cons2, q_evIfs_none, q_evIfs_some, q_evo_none, q_evo_some, q_evi_ex, q_run1_ex, q_run1_set, q_run1_put, q_run1_aug, q_run1_augs, q_run1_ite, q_run1_whl, q_run1_for, q_run1_ret, q_run1_retN, q_run1_rais, q_run1_try, q_run1_brk, q_run1_cnt, q_run1_pas, q_runs_nil, q_runs_cons, q_runH_nil, q_runH_cons, tst, bltop, bindG, bindGs, cmpop, ofB, truthy, int1, int2, ltop, leop, binop, addop, subop, mulop, divop, modop, powop, ixop, items, litems, ditems, mkLst, mkDic, lenop, intop, isiop, tyOf, putop, src, wipeP, metop, metok, isLst, isDic, isStr, isLsq, appop, popL, getD, slop, revop, tupop, lstop, keyOf, inop, Aes.len, peq, scalP, eqF, isNon, isBl, f_law_gcd, e1]
  exact end_rt
theorem s_lpair {PG : Pg} [Has PG "_law_pair" f_law_pair] [Has PG "_law_gcd" f_law_gcd] {n : Nat} (hn : 2 ≤ n) (h : MH) (a b : Int) (hb : b ≠ 0) (hs : b.natAbs < 2 ^ 8999) : call PG n "_law_pair" [.int a, .int b] [] [] h = .ok (nq (Rat.divInt a b)) h := by
  rw [call_ge (by omega) rfl]
  obtain ⟨f1, f2⟩ := gcd_fit (t := a) hb hs (Nat.le_refl _)
  have hg : (Nat.gcd a.natAbs b.natAbs : Int) ≠ 0 := by
    have := Nat.gcd_pos_of_pos_right a.natAbs (show 0 < b.natAbs by omega)
    omega
  have hg2 : ¬ (a = 0 ∧ b = 0) := fun q => hb q.2
  have ea : (if a < 0 then -a else a) = (a.natAbs : Int) := by split <;> omega
  have ec := s_gcd (PG := PG) (n := n - 1) (by omega) h (a.natAbs : Int) (b.natAbs : Int) (by omega) (by omega)
  rw [Int.natAbs_natCast, Int.natAbs_natCast] at ec
  by_cases hn : b < 0
  · have eb : (b.natAbs : Int) = -b := by omega
    rw [eb] at ec
    simp [body, q_ev_v, q_ev_non, q_ev_bl, q_ev_int, q_ev_str, q_ev_con, q_ev_tup, q_ev_lst, q_ev_bin, q_ev_neg, q_ev_not, q_ev_cmp, q_ev_chain, q_ev_and, q_ev_or, q_ev_ifx, q_ev_ix, q_ev_sl, q_ev_call, q_ev_blt, q_ev_isi, q_ev_met, q_ev_tupS, q_ev_lstS, q_ev_rev, q_ev_dnew, q_ev_dzip, q_ev_fnv, q_ev_calv, q_ev_val, q_evs_nil, q_evs_cons, q_evs_star, q_evD_nil, q_evD_cons, q_evAnd_cons, q_evAnd_cons2, q_evOr_cons, q_evOr_cons2, q_evIfs_none, q_evIfs_some, q_evo_none, q_evo_some, q_evi_ex, q_run1_ex, q_run1_set, q_run1_put, q_run1_aug, q_run1_augs, q_run1_ite, q_run1_whl, q_run1_for, q_run1_ret, q_run1_retN, q_run1_rais, q_run1_try, q_run1_brk, q_run1_cnt, q_run1_pas, q_runs_nil, q_runs_cons, q_runH_nil, q_runH_cons, tst, bltop, bindG, bindGs, cmpop, ofB, truthy, int1, int2, ltop, leop, binop, addop, subop, mulop, divop, modop, powop, ixop, items, litems, ditems, mkLst, mkDic, lenop, intop, isiop, tyOf, putop, src, wipeP, metop, metok, isLst, isDic, isStr, isLsq, appop, popL, getD, slop, revop, tupop, lstop, keyOf, inop, Aes.len, peq, scalP, eqF, isNon, isBl, f_law_pair, f1, f2, hg, hg2, hb, ea, hn, ec]
    rw [end_rt, ← low_nq a hb, if_pos hn]
  · have eb : (b.natAbs : Int) = b := by omega
    rw [eb] at ec
    simp [body, q_ev_v, q_ev_non, q_ev_bl, q_ev_int, q_ev_str, q_ev_con, q_ev_tup, q_ev_lst, q_ev_bin, q_ev_neg, q_ev_not, q_ev_cmp, q_ev_chain, q_ev_and, q_ev_or, q_ev_ifx, q_ev_ix, q_ev_sl, q_ev_call, q_ev_blt, q_ev_isi, q_ev_met, q_ev_tupS, q_ev_lstS, q_ev_rev, q_ev_dnew, q_ev_dzip, q_ev_fnv, q_ev_calv, q_ev_val, q_evs_nil, q_evs_cons, q_evs_star, q_evD_nil, q_evD_cons, q_evAnd_cons, q_evAnd_cons2, q_evOr_cons, q_evOr_cons2, q_evIfs_none, q_evIfs_some, q_evo_none, q_evo_some, q_evi_ex, q_run1_ex, q_run1_set, q_run1_put, q_run1_aug, q_run1_augs, q_run1_ite, q_run1_whl, q_run1_for, q_run1_ret, q_run1_retN, q_run1_rais, q_run1_try, q_run1_brk, q_run1_cnt, q_run1_pas, q_runs_nil, q_runs_cons, q_runH_nil, q_runH_cons, tst, bltop, bindG, bindGs, cmpop, ofB, truthy, int1, int2, ltop, leop, binop, addop, subop, mulop, divop, modop, powop, ixop, items, litems, ditems, mkLst, mkDic, lenop, intop, isiop, tyOf, putop, src, wipeP, metop, metok, isLst, isDic, isStr, isLsq, appop, popL, getD, slop, revop, tupop, lstop, keyOf, inop, Aes.len, peq, scalP, eqF, isNon, isBl, f_law_pair, f1, f2, hg, hg2, hb, ea, hn, ec]
    rw [end_rt, ← low_nq a hb, if_neg hn]
theorem s_lplus {PG : Pg} [Has PG "_law_plus" f_law_plus] [Has PG "_law_pair" f_law_pair] [Has PG "_law_gcd" f_law_gcd] {n : Nat} (hn : 3 ≤ n) (h : MH) (p q : Rat) (hz : sz p + sz q ≤ 8990) : call PG n "_law_plus" [nq p, nq q] [] [] h = .ok (nq (p + q)) h := by
  rw [call_ge (by omega) rfl]
  have f1 : fits p.num q.den := fits_z (sz_num p) (by simpa using sz_den q) (by omega)
  have f2 : fits q.num p.den := fits_z (sz_num q) (by simpa using sz_den p) (by omega)
  have f3 : fits (p.den : Int) q.den := fits_z (by simpa using sz_den p) (by simpa using sz_den q) (by omega)
  have hm : (p.den : Int) * q.den ≠ 0 := Int.mul_ne_zero (den_ne p) (den_ne q)
  have e := s_lpair (PG := PG) (n := n - 1) (by omega) h (p.num * q.den + q.num * p.den) (p.den * q.den) hm (by
    rw [Int.natAbs_mul, Int.natAbs_natCast, Int.natAbs_natCast]
    have h1 := Nat.mul_lt_mul'' (sz_den p) (sz_den q)
    rw [← Nat.pow_add] at h1
    exact Nat.lt_of_lt_of_le h1 (pw (by omega)))
  rw [← add_divInt] at e
  simp [body, q_ev_v, q_ev_non, q_ev_bl, q_ev_int, q_ev_str, q_ev_con, q_ev_tup, q_ev_lst, q_ev_bin, q_ev_neg, q_ev_not, q_ev_cmp, q_ev_chain, q_ev_and, q_ev_or, q_ev_ifx, q_ev_ix, q_ev_sl, q_ev_call, q_ev_blt, q_ev_isi, q_ev_met, q_ev_tupS, q_ev_lstS, q_ev_rev, q_ev_dnew, q_ev_dzip, q_ev_fnv, q_ev_calv, q_ev_val, q_evs_nil, q_evs_cons, q_evs_star, q_evD_nil, q_evD_cons, q_evAnd_cons, q_evAnd_cons2, q_evOr_cons, q_evOr_cons2, q_evIfs_none, q_evIfs_some, q_evo_none, q_evo_some, q_evi_ex, q_run1_ex, q_run1_set, q_run1_put, q_run1_aug, q_run1_augs, q_run1_ite, q_run1_whl, q_run1_for, q_run1_ret, q_run1_retN, q_run1_rais, q_run1_try, q_run1_brk, q_run1_cnt, q_run1_pas, q_runs_nil, q_runs_cons, q_runH_nil, q_runH_cons, tst, bltop, bindG, bindGs, cmpop, ofB, truthy, int1, int2, ltop, leop, binop, addop, subop, mulop, divop, modop, powop, ixop, items, litems, ditems, mkLst, mkDic, lenop, intop, isiop, tyOf, putop, src, wipeP, metop, metok, isLst, isDic, isStr, isLsq, appop, popL, getD, slop, revop, tupop, lstop, keyOf, inop, Aes.len, peq, scalP, eqF, isNon, isBl, f_law_plus, nq, f1, f2, f3]
  rw [e]
  simp
  exact end_rt
theorem s_ltimes {PG : Pg} [Has PG "_law_times" f_law_times] [Has PG "_law_pair" f_law_pair] [Has PG "_law_gcd" f_law_gcd] {n : Nat} (hn : 3 ≤ n) (h : MH) (p q : Rat) (hz : sz p + sz q ≤ 8990) : call PG n "_law_times" [nq p, nq q] [] [] h = .ok (nq (p * q)) h := by
  rw [call_ge (by omega) rfl]
  have f1 : fits p.num q.num := fits_z (sz_num p) (sz_num q) (by omega)
  have f3 : fits (p.den : Int) q.den := fits_z (by simpa using sz_den p) (by simpa using sz_den q) (by omega)
  have hm : (p.den : Int) * q.den ≠ 0 := Int.mul_ne_zero (den_ne p) (den_ne q)
  have e := s_lpair (PG := PG) (n := n - 1) (by omega) h (p.num * q.num) (p.den * q.den) hm (by
    rw [Int.natAbs_mul, Int.natAbs_natCast, Int.natAbs_natCast]
    have h1 := Nat.mul_lt_mul'' (sz_den p) (sz_den q)
    rw [← Nat.pow_add] at h1
    exact Nat.lt_of_lt_of_le h1 (pw (by omega)))
  rw [← mul_divInt] at e
  simp [body, q_ev_v, q_ev_non, q_ev_bl, q_ev_int, q_ev_str, q_ev_con, q_ev_tup, q_ev_lst, q_ev_bin, q_ev_neg, q_ev_not, q_ev_cmp, q_ev_chain, q_ev_and, q_ev_or, q_ev_ifx, q_ev_ix, q_ev_sl, q_ev_call, q_ev_blt, q_ev_isi, q_ev_met, q_ev_tupS, q_ev_lstS, q_ev_rev, q_ev_dnew, q_ev_dzip, q_ev_fnv, q_ev_calv, q_ev_val, q_evs_nil, q_evs_cons, q_evs_star, q_evD_nil, q_evD_cons, q_evAnd_cons, q_evAnd_cons2, q_evOr_cons, q_evOr_cons2, q_evIfs_none, q_evIfs_some, q_evo_none, q_evo_some, q_evi_ex, q_run1_ex, q_run1_set, q_run1_put, q_run1_aug, q_run1_augs, q_run1_ite, q_run1_whl, q_run1_for, q_run1_ret, q_run1_retN, q_run1_rais, q_run1_try, q_run1_brk, q_run1_cnt, q_run1_pas, q_runs_nil, q_runs_cons, q_runH_nil, q_runH_cons, tst, bltop, bindG, bindGs, cmpop, ofB, truthy, int1, int2, ltop, leop, binop, addop, subop, mulop, divop, modop, powop, ixop, items, litems, ditems, mkLst, mkDic, lenop, intop, isiop, tyOf, putop, src, wipeP, metop, metok, isLst, isDic, isStr, isLsq, appop, popL, getD, slop, revop, tupop, lstop, keyOf, inop, Aes.len, peq, scalP, eqF, isNon, isBl, f_law_times, nq, f1, f3]
  rw [e]
  simp
  exact end_rt
/-! data that are alike -/
inductive Da : Nat → PV → Prop
  | non {k : Nat} : Da k .non
  | bl {k : Nat} (b : Bool) : Da k (.bl b)
  | int {k : Nat} (i : Int) : Da k (.int i)
  | str {k : Nat} (x : Str) : Da k (.str x)
  | tup {k : Nat} {xs : List PV} (h : ∀ x ∈ xs, Da k x) (hl : xs.length ≤ 1000000) : Da (k + 1) (.tup xs)
  | lst {k : Nat} {xs : List PV} (h : ∀ x ∈ xs, Da k x) (hl : xs.length ≤ 1000000) : Da (k + 1) (.lst xs)
theorem Da.nq {k : Nat} (r : Rat) : Da (k + 1) (nq r) := .tup (fun x hx => by
  rcases List.mem_cons.mp hx with rfl | hx
  · exact .int _
  · rcases List.mem_cons.mp hx with rfl | hx
    · exact .int _
    · cases hx) (by simp)
theorem Da.tm {k : Nat} (t : Tm) : Da (k + 2) (tm t) := .tup (fun x hx => by
  rcases List.mem_cons.mp hx with rfl | hx
  · exact .str _
  · rcases List.mem_cons.mp hx with rfl | hx
    · exact .nq _
    · cases hx) (by simp)
theorem Da.fm {k : Nat} (f : Form) (hl : f.2.length ≤ 1000000) : Da (k + 4) (fm f) := .tup (fun x hx => by
  rcases List.mem_cons.mp hx with rfl | hx
  · exact .nq _
  · rcases List.mem_cons.mp hx with rfl | hx
    · refine .tup (fun y hy => ?_) (by simpa using hl)
      obtain ⟨t, _, rfl⟩ := List.mem_map.mp hy
      exact .tm t
    · cases hx) (by simp)
theorem Da.up {k : Nat} {v : PV} (d : Da k v) : ∀ {m : Nat}, k ≤ m → Da m v := by
  induction d with
  | non => intro m _; exact .non
  | bl b => intro m _; exact .bl b
  | int b => intro m _; exact .int b
  | str b => intro m _; exact .str b
  | tup h hl ih =>
    intro m hm
    obtain ⟨m, rfl⟩ : ∃ k, m = k + 1 := ⟨m - 1, by omega⟩
    exact .tup (fun x hx => ih x hx (by omega)) hl
  | lst h hl ih =>
    intro m hm
    obtain ⟨m, rfl⟩ : ∃ k, m = k + 1 := ⟨m - 1, by omega⟩
    exact .lst (fun x hx => ih x hx (by omega)) hl
theorem peq_nil (h : MH) : peq h (.lst []) (.lst []) = some true := by
  unfold peq
  simp [scalP, peqD, toD, toDs, SeqAt.shaped, PyData.eqv, PyData.eqvAll, PyData.canLay0, PyData.canLayAll0, PyData.depth, PyData.depthAll]
theorem same_row {PG : Pg} [Has PG "_law_same" f_law_same] {n : Nat} (h : MH) {x : PV} {xs : List PV} (hx : x = .tup xs ∨ x = .lst xs) (hl : xs.length ≤ 1000000) (ih : ∀ y ∈ xs, call PG n "_law_same" [y, y] [] [] h = .ok (.bl true) h) :
    ev PG (call PG n) c_law_same_1 [some x, some x, none] h = .ok (.lst []) h := by
  have := comp_fl (P := PG) (cl := call PG n) (elt := .v 2) (gt := .nm 2) (it := .range1 (.blt .len false (.cons (.v 1) .nil))) (ifs := .some (.not (.call "_law_same" (.cons (.ix (.v 0) (.v 2)) (.cons (.ix (.v 1) (.v 2)) .nil)) [] .nil))) (own := [("k", 2)]) (ρ := [some x, some x, none]) (h := h) (h' := h) (l := []) (g := fun k : Nat => PV.int (k : Int)) (xs := List.range xs.length) (p := fun _ => false) (f := fun k => .int (k : Int))
    (by
      have e0 : ev PG (call PG n) (.blt .len false (.cons (.v 1) .nil)) [some x, some x, none] h = .ok (.int (xs.length : Int)) h := by rcases hx with rfl | rfl <;> simp [body, q_ev_v, q_ev_non, q_ev_bl, q_ev_int, q_ev_str, q_ev_con, q_ev_tup, q_ev_lst, q_ev_bin, q_ev_neg, q_ev_not, q_ev_cmp, q_ev_chain, q_ev_and, q_ev_or, q_ev_ifx, q_ev_ix, q_ev_sl, q_ev_call, q_ev_blt, q_ev_isi, q_ev_met, q_ev_tupS, q_ev_lstS, q_ev_rev, q_ev_dnew, q_ev_dzip, q_ev_fnv, q_ev_calv, q_ev_val, q_evs_nil, q_evs_cons, q_evs_star, q_evD_nil, q_evD_cons, q_evAnd_cons, q_evAnd_cons2, q_evOr_cons, q_evOr_cons2, q_evIfs_none, q_evIfs_some, q_evo_none, q_evo_some, q_evi_ex, q_run1_ex, q_run1_set, q_run1_put, q_run1_aug, q_run1_augs, q_run1_ite, q_run1_whl, q_run1_for, q_run1_ret, q_run1_retN, q_run1_rais, q_run1_try, q_run1_brk, q_run1_cnt, q_run1_pas, q_runs_nil, q_runs_cons, q_runH_nil, q_runH_cons, tst, bltop, bindG, bindGs, cmpop, ofB, truthy, int1, int2, ltop, leop, binop, addop, subop, mulop, divop, modop, powop, ixop, items, litems, ditems, mkLst, mkDic, lenop, intop, isiop, tyOf, putop, src, wipeP, metop, metok, isLst, isDic, isStr, isLsq, appop, popL, getD, slop, revop, tupop, lstop, keyOf, inop, Aes.len, peq, scalP, eqF, isNon, isBl]
      exact rng1 e0 (by omega)) chk_nil (small (by simpa using hl) (Nat.le_refl _)) (fun i hi => by
      have hi' : i < xs.length := List.mem_range.mp hi
      have e1 := atI_nat hi'
      have e2 := ih xs[i] (List.getElem_mem hi')
      rcases hx with rfl | rfl <;> simp [body, q_ev_v, q_ev_non, q_ev_bl, q_ev_int, q_ev_str, q_ev_con, q_ev_tup, q_ev_lst, q_ev_bin, q_ev_neg, q_ev_not, q_ev_cmp, q_ev_chain, q_ev_and, q_ev_or, q_ev_ifx, q_ev_ix, q_ev_sl, q_ev_call, q_ev_blt, q_ev_isi, q_ev_met, q_ev_tupS, q_ev_lstS, q_ev_rev, q_ev_dnew, q_ev_dzip, q_ev_fnv, q_ev_calv, q_ev_val, q_evs_nil, q_evs_cons, q_evs_star, q_evD_nil, q_evD_cons, q_evAnd_cons, q_evAnd_cons2, q_evOr_cons, q_evOr_cons2, q_evIfs_none, q_evIfs_some, q_evo_none, q_evo_some, q_evi_ex, q_run1_ex, q_run1_set, q_run1_put, q_run1_aug, q_run1_augs, q_run1_ite, q_run1_whl, q_run1_for, q_run1_ret, q_run1_retN, q_run1_rais, q_run1_try, q_run1_brk, q_run1_cnt, q_run1_pas, q_runs_nil, q_runs_cons, q_runH_nil, q_runH_cons, tst, bltop, bindG, bindGs, cmpop, ofB, truthy, int1, int2, ltop, leop, binop, addop, subop, mulop, divop, modop, powop, ixop, items, litems, ditems, mkLst, mkDic, lenop, intop, isiop, tyOf, putop, src, wipeP, metop, metok, isLst, isDic, isStr, isLsq, appop, popL, getD, slop, revop, tupop, lstop, keyOf, inop, Aes.len, peq, scalP, eqF, isNon, isBl, turnC, e1, e2]) false
  refine this.trans ?_
  simp [mkLst]
theorem s_same {PG : Pg} [Has PG "_law_same" f_law_same] : ∀ {k : Nat} {x : PV}, Da k x → ∀ {n : Nat}, k + 1 ≤ n → ∀ h : MH, call PG n "_law_same" [x, x] [] [] h = .ok (.bl true) h := by
  intro k x d
  induction d with
  | non =>
    intro n hn h
    rw [call_ge (by omega) rfl]
    simp [body, q_ev_v, q_ev_non, q_ev_bl, q_ev_int, q_ev_str, q_ev_con, q_ev_tup, q_ev_lst, q_ev_bin, q_ev_neg, q_ev_not, q_ev_cmp, q_ev_chain, q_ev_and, q_ev_or, q_ev_ifx, q_ev_ix, q_ev_sl, q_ev_call, q_ev_blt, q_ev_isi, q_ev_met, q_ev_tupS, q_ev_lstS, q_ev_rev, q_ev_dnew, q_ev_dzip, q_ev_fnv, q_ev_calv, q_ev_val, q_evs_nil, q_evs_cons, q_evs_star, q_evD_nil, q_evD_cons, q_evAnd_cons, q_evAnd_cons2, q_evOr_cons, q_evOr_cons2, q_evIfs_none, q_evIfs_some, q_evo_none, q_evo_some, q_evi_ex, q_run1_ex, q_run1_set, q_run1_put, q_run1_aug, q_run1_augs, q_run1_ite, q_run1_whl, q_run1_for, q_run1_ret, q_run1_retN, q_run1_rais, q_run1_try, q_run1_brk, q_run1_cnt, q_run1_pas, q_runs_nil, q_runs_cons, q_runH_nil, q_runH_cons, tst, bltop, bindG, bindGs, cmpop, ofB, truthy, int1, int2, ltop, leop, binop, addop, subop, mulop, divop, modop, powop, ixop, items, litems, ditems, mkLst, mkDic, lenop, intop, isiop, tyOf, putop, src, wipeP, metop, metok, isLst, isDic, isStr, isLsq, appop, popL, getD, slop, revop, tupop, lstop, keyOf, inop, Aes.len, peq, scalP, eqF, isNon, isBl, f_law_same, subB]
    exact end_rt
  | bl b =>
    intro n hn h
    rw [call_ge (by omega) rfl]
    simp [body, q_ev_v, q_ev_non, q_ev_bl, q_ev_int, q_ev_str, q_ev_con, q_ev_tup, q_ev_lst, q_ev_bin, q_ev_neg, q_ev_not, q_ev_cmp, q_ev_chain, q_ev_and, q_ev_or, q_ev_ifx, q_ev_ix, q_ev_sl, q_ev_call, q_ev_blt, q_ev_isi, q_ev_met, q_ev_tupS, q_ev_lstS, q_ev_rev, q_ev_dnew, q_ev_dzip, q_ev_fnv, q_ev_calv, q_ev_val, q_evs_nil, q_evs_cons, q_evs_star, q_evD_nil, q_evD_cons, q_evAnd_cons, q_evAnd_cons2, q_evOr_cons, q_evOr_cons2, q_evIfs_none, q_evIfs_some, q_evo_none, q_evo_some, q_evi_ex, q_run1_ex, q_run1_set, q_run1_put, q_run1_aug, q_run1_augs, q_run1_ite, q_run1_whl, q_run1_for, q_run1_ret, q_run1_retN, q_run1_rais, q_run1_try, q_run1_brk, q_run1_cnt, q_run1_pas, q_runs_nil, q_runs_cons, q_runH_nil, q_runH_cons, tst, bltop, bindG, bindGs, cmpop, ofB, truthy, int1, int2, ltop, leop, binop, addop, subop, mulop, divop, modop, powop, ixop, items, litems, ditems, mkLst, mkDic, lenop, intop, isiop, tyOf, putop, src, wipeP, metop, metok, isLst, isDic, isStr, isLsq, appop, popL, getD, slop, revop, tupop, lstop, keyOf, inop, Aes.len, peq, scalP, eqF, isNon, isBl, f_law_same, subB]
    exact end_rt
  | int b =>
    intro n hn h
    rw [call_ge (by omega) rfl]
    simp [body, q_ev_v, q_ev_non, q_ev_bl, q_ev_int, q_ev_str, q_ev_con, q_ev_tup, q_ev_lst, q_ev_bin, q_ev_neg, q_ev_not, q_ev_cmp, q_ev_chain, q_ev_and, q_ev_or, q_ev_ifx, q_ev_ix, q_ev_sl, q_ev_call, q_ev_blt, q_ev_isi, q_ev_met, q_ev_tupS, q_ev_lstS, q_ev_rev, q_ev_dnew, q_ev_dzip, q_ev_fnv, q_ev_calv, q_ev_val, q_evs_nil, q_evs_cons, q_evs_star, q_evD_nil, q_evD_cons, q_evAnd_cons, q_evAnd_cons2, q_evOr_cons, q_evOr_cons2, q_evIfs_none, q_evIfs_some, q_evo_none, q_evo_some, q_evi_ex, q_run1_ex, q_run1_set, q_run1_put, q_run1_aug, q_run1_augs, q_run1_ite, q_run1_whl, q_run1_for, q_run1_ret, q_run1_retN, q_run1_rais, q_run1_try, q_run1_brk, q_run1_cnt, q_run1_pas, q_runs_nil, q_runs_cons, q_runH_nil, q_runH_cons, tst, bltop, bindG, bindGs, cmpop, ofB, truthy, int1, int2, ltop, leop, binop, addop, subop, mulop, divop, modop, powop, ixop, items, litems, ditems, mkLst, mkDic, lenop, intop, isiop, tyOf, putop, src, wipeP, metop, metok, isLst, isDic, isStr, isLsq, appop, popL, getD, slop, revop, tupop, lstop, keyOf, inop, Aes.len, peq, scalP, eqF, isNon, isBl, f_law_same, subB]
    exact end_rt
  | str b =>
    intro n hn h
    rw [call_ge (by omega) rfl]
    simp [body, q_ev_v, q_ev_non, q_ev_bl, q_ev_int, q_ev_str, q_ev_con, q_ev_tup, q_ev_lst, q_ev_bin, q_ev_neg, q_ev_not, q_ev_cmp, q_ev_chain, q_ev_and, q_ev_or, q_ev_ifx, q_ev_ix, q_ev_sl, q_ev_call, q_ev_blt, q_ev_isi, q_ev_met, q_ev_tupS, q_ev_lstS, q_ev_rev, q_ev_dnew, q_ev_dzip, q_ev_fnv, q_ev_calv, q_ev_val, q_evs_nil, q_evs_cons, q_evs_star, q_evD_nil, q_evD_cons, q_evAnd_cons, q_evAnd_cons2, q_evOr_cons, q_evOr_cons2, q_evIfs_none, q_evIfs_some, q_evo_none, q_evo_some, q_evi_ex, q_run1_ex, q_run1_set, q_run1_put, q_run1_aug, q_run1_augs, q_run1_ite, q_run1_whl, q_run1_for, q_run1_ret, q_run1_retN, q_run1_rais, q_run1_try, q_run1_brk, q_run1_cnt, q_run1_pas, q_runs_nil, q_runs_cons, q_runH_nil, q_runH_cons, tst, bltop, bindG, bindGs, cmpop, ofB, truthy, int1, int2, ltop, leop, binop, addop, subop, mulop, divop, modop, powop, ixop, items, litems, ditems, mkLst, mkDic, lenop, intop, isiop, tyOf, putop, src, wipeP, metop, metok, isLst, isDic, isStr, isLsq, appop, popL, getD, slop, revop, tupop, lstop, keyOf, inop, Aes.len, peq, scalP, eqF, isNon, isBl, f_law_same, subB]
    exact end_rt
  | @tup k xs hx hl ih =>
    intro n hn h
    have ec := same_row (PG := PG) (n := n - 1) h (x := .tup xs) (.inl rfl) hl fun y hy => ih y hy (by omega) h
    rw [call_ge (by omega) rfl]
    have eb : ∀ b : Bool, peq h (.bl b) (.bl b) = some true := fun b => by simp [peq, scalP, eqF]
    have ei : ∀ b : Int, peq h (.int b) (.int b) = some true := fun b => by simp [peq, scalP, eqF]
    simp [body, q_ev_v, q_ev_non, q_ev_bl, q_ev_int, q_ev_str, q_ev_con, q_ev_tup, q_ev_lst, q_ev_bin, q_ev_neg, q_ev_not, q_ev_cmp, q_ev_chain, q_ev_and, q_ev_or, q_ev_ifx, q_ev_ix, q_ev_sl, q_ev_call, q_ev_blt, q_ev_isi, q_ev_met, q_ev_tupS, q_ev_lstS, q_ev_rev, q_ev_dnew, q_ev_dzip, q_ev_fnv, q_ev_calv, q_ev_val, q_evs_nil, q_evs_cons, q_evs_star, q_evD_nil, q_evD_cons, q_evAnd_cons, q_evAnd_cons2, q_evOr_cons, q_evOr_cons2, q_evIfs_none, q_evIfs_some, q_evo_none, q_evo_some, q_evi_ex, q_run1_ex, q_run1_set, q_run1_put, q_run1_aug, q_run1_augs, q_run1_ite, q_run1_whl, q_run1_for, q_run1_ret, q_run1_retN, q_run1_rais, q_run1_try, q_run1_brk, q_run1_cnt, q_run1_pas, q_runs_nil, q_runs_cons, q_runH_nil, q_runH_cons, tst, bltop, bindG, bindGs, cmpop, ofB, truthy, int1, int2, ltop, leop, binop, addop, subop, mulop, divop, modop, powop, ixop, items, litems, ditems, mkLst, mkDic, lenop, intop, isiop, tyOf, putop, src, wipeP, metop, metok, isLst, isDic, isStr, isLsq, appop, popL, getD, slop, revop, tupop, lstop, keyOf, inop, Aes.len, peq, scalP, eqF, isNon, isBl, -peq, f_law_same, subB, ec, eb, ei, peq_nil h]
    exact end_rt
  | @lst k xs hx hl ih =>
    intro n hn h
    have ec := same_row (PG := PG) (n := n - 1) h (x := .lst xs) (.inr rfl) hl fun y hy => ih y hy (by omega) h
    rw [call_ge (by omega) rfl]
    have eb : ∀ b : Bool, peq h (.bl b) (.bl b) = some true := fun b => by simp [peq, scalP, eqF]
    have ei : ∀ b : Int, peq h (.int b) (.int b) = some true := fun b => by simp [peq, scalP, eqF]
    simp [body, q_ev_v, q_ev_non, q_ev_bl, q_ev_int, q_ev_str, q_ev_con, q_ev_tup, q_ev_lst, q_ev_bin, q_ev_neg, q_ev_not, q_ev_cmp, q_ev_chain, q_ev_and, q_ev_or, q_ev_ifx, q_ev_ix, q_ev_sl, q_ev_call, q_ev_blt, q_ev_isi, q_ev_met, q_ev_tupS, q_ev_lstS, q_ev_rev, q_ev_dnew, q_ev_dzip, q_ev_fnv, q_ev_calv, q_ev_val, q_evs_nil, q_evs_cons, q_evs_star, q_evD_nil, q_evD_cons, q_evAnd_cons, q_evAnd_cons2, q_evOr_cons, q_evOr_cons2, q_evIfs_none, q_evIfs_some, q_evo_none, q_evo_some, q_evi_ex, q_run1_ex, q_run1_set, q_run1_put, q_run1_aug, q_run1_augs, q_run1_ite, q_run1_whl, q_run1_for, q_run1_ret, q_run1_retN, q_run1_rais, q_run1_try, q_run1_brk, q_run1_cnt, q_run1_pas, q_runs_nil, q_runs_cons, q_runH_nil, q_runH_cons, tst, bltop, bindG, bindGs, cmpop, ofB, truthy, int1, int2, ltop, leop, binop, addop, subop, mulop, divop, modop, powop, ixop, items, litems, ditems, mkLst, mkDic, lenop, intop, isiop, tyOf, putop, src, wipeP, metop, metok, isLst, isDic, isStr, isLsq, appop, popL, getD, slop, revop, tupop, lstop, keyOf, inop, Aes.len, peq, scalP, eqF, isNon, isBl, -peq, f_law_same, subB, ec, eb, ei, peq_nil h]
    exact end_rt
end Mx.FA

end

section
set_option linter.all false
set_option maxRecDepth 100000
set_option maxHeartbeats 4000000
set_option exponentiation.threshold 20000
namespace Mx.FA
open PySem PySem.Spec PyProof.Rows L2 Mx

/-! numbers, names, forms that are drawn -/
theorem sz_small {i : Int} (h : i.natAbs < 2 ^ 20) : sz (i : Rat) ≤ 20 := sz_int h
theorem nq_one (i : Int) : PV.tup [.int i, .int 1] = nq (i : Rat) := (nq_int i).symm
theorem sz_20 {a b : Int} (h1 : a.natAbs < 2 ^ 20) (h2 : b.natAbs < 2 ^ 20) (hb : b ≠ 0) : sz (Rat.divInt a b) ≤ 20 := sz_divInt hb h1 h2 (by decide)
theorem big20 {a : Nat} (h : a < 2 ^ 20) : a < 2 ^ 8999 := Nat.lt_of_lt_of_le h (pw (by decide))
theorem s_number {PG : Pg} [Has PG "_law_number" f_law_number] [Has PG "_law_take" f_law_take] [Has PG "_law_pair" f_law_pair] [Has PG "_law_gcd" f_law_gcd] {n : Nat} (hn : 3 ≤ n) (h : MH) {m : Nat} (hD : Dk h m) :
    ∃ r h', call PG n "_law_number" [.ref m] [] [] h = .ok (nq r) h' ∧ sz r ≤ 20 ∧ Chg DK m h h' := by
  rw [call_ge (by omega) rfl]
  obtain ⟨w, h1, e1, w0, w1, c1⟩ := s_take (PG := PG) (n := n - 1) (by omega) h 6 hD (by decide) (by decide)
  obtain ⟨a, h2, e2, a0, a1, c2⟩ := s_take (PG := PG) (n := n - 1) (by omega) h1 3 c1.dk (by decide) (by decide)
  obtain ⟨b, h3, e3, b0, b1, c3⟩ := s_take (PG := PG) (n := n - 1) (by omega) h1 41 c1.dk (by decide) (by decide)
  obtain ⟨c, h4, e4, d0, d1, c4⟩ := s_take (PG := PG) (n := n - 1) (by omega) h3 12 c3.dk (by decide) (by decide)
  obtain ⟨d, h5, e5, p0, p1, c5⟩ := s_take (PG := PG) (n := n - 1) (by omega) h1 1999999 c1.dk (by decide) (by decide)
  obtain ⟨e, h6, e6, q0, q1, c6⟩ := s_take (PG := PG) (n := n - 1) (by omega) h5 999999 c5.dk (by decide) (by decide)
  have l1 := s_lpair (PG := PG) (n := n - 1) (by omega) h4 (b - 20) (1 + c) (by omega) (big20 (by omega))
  have l2 := s_lpair (PG := PG) (n := n - 1) (by omega) h5 (d - 999999) 1 (by omega) (big20 (by omega))
  have l3 := s_lpair (PG := PG) (n := n - 1) (by omega) h6 (d - 999999) (1 + e) (by omega) (big20 (by omega))
  by_cases x0 : w = 0
  · subst x0
    refine ⟨((a - 1 : Int) : Rat), h2, ?_, sz_small (by omega), c1.trans c2⟩
    rw [nq_int]
    simp [body, q_ev_v, q_ev_non, q_ev_bl, q_ev_int, q_ev_str, q_ev_con, q_ev_tup, q_ev_lst, q_ev_bin, q_ev_neg, q_ev_not, q_ev_cmp, q_ev_chain, q_ev_and, q_ev_or, q_ev_ifx, q_ev_ix, q_ev_sl, q_ev_call, q_ev_blt, q_ev_isi, q_ev_met, q_ev_tupS, q_ev_lstS, q_ev_rev, q_ev_dnew, q_ev_dzip, q_ev_fnv, q_ev_calv, q_ev_val, q_evs_nil, q_evs_cons, q_evs_star, q_evD_nil, q_evD_cons, q_evAnd_cons, q_evAnd_cons2, q_evOr_cons, q_evOr_cons2, q_evIfs_none, q_evIfs_some, q_evo_none, q_evo_some, q_evi_ex, q_run1_ex, q_run1_set, q_run1_put, q_run1_aug, q_run1_augs, q_run1_ite, q_run1_whl, q_run1_for, q_run1_ret, q_run1_retN, q_run1_rais, q_run1_try, q_run1_brk, q_run1_cnt, q_run1_pas, q_runs_nil, q_runs_cons, q_runH_nil, q_runH_cons, tst, bltop, bindG, bindGs, cmpop, ofB, truthy, int1, int2, ltop, leop, binop, addop, subop, mulop, divop, modop, powop, ixop, items, litems, ditems, mkLst, mkDic, lenop, intop, isiop, tyOf, putop, src, wipeP, metop, metok, isLst, isDic, isStr, isLsq, appop, popL, getD, slop, revop, tupop, lstop, keyOf, inop, Aes.len, peq, scalP, eqF, isNon, isBl, f_law_number, e1, e2]
    exact (c1.trans c2).end_rt0
  · by_cases x1 : w = 1
    · subst x1
      refine ⟨((b - 20 : Int) : Rat), h3, ?_, sz_small (by omega), c1.trans c3⟩
      rw [nq_int]
      simp [body, q_ev_v, q_ev_non, q_ev_bl, q_ev_int, q_ev_str, q_ev_con, q_ev_tup, q_ev_lst, q_ev_bin, q_ev_neg, q_ev_not, q_ev_cmp, q_ev_chain, q_ev_and, q_ev_or, q_ev_ifx, q_ev_ix, q_ev_sl, q_ev_call, q_ev_blt, q_ev_isi, q_ev_met, q_ev_tupS, q_ev_lstS, q_ev_rev, q_ev_dnew, q_ev_dzip, q_ev_fnv, q_ev_calv, q_ev_val, q_evs_nil, q_evs_cons, q_evs_star, q_evD_nil, q_evD_cons, q_evAnd_cons, q_evAnd_cons2, q_evOr_cons, q_evOr_cons2, q_evIfs_none, q_evIfs_some, q_evo_none, q_evo_some, q_evi_ex, q_run1_ex, q_run1_set, q_run1_put, q_run1_aug, q_run1_augs, q_run1_ite, q_run1_whl, q_run1_for, q_run1_ret, q_run1_retN, q_run1_rais, q_run1_try, q_run1_brk, q_run1_cnt, q_run1_pas, q_runs_nil, q_runs_cons, q_runH_nil, q_runH_cons, tst, bltop, bindG, bindGs, cmpop, ofB, truthy, int1, int2, ltop, leop, binop, addop, subop, mulop, divop, modop, powop, ixop, items, litems, ditems, mkLst, mkDic, lenop, intop, isiop, tyOf, putop, src, wipeP, metop, metok, isLst, isDic, isStr, isLsq, appop, popL, getD, slop, revop, tupop, lstop, keyOf, inop, Aes.len, peq, scalP, eqF, isNon, isBl, f_law_number, e1, e3]
      exact (c1.trans c3).end_rt0
    · by_cases x2 : w < 4
      · refine ⟨Rat.divInt (b - 20) (1 + c), h4, ?_, sz_20 (by omega) (by omega) (by omega), (c1.trans c3).trans c4⟩
        simp [body, q_ev_v, q_ev_non, q_ev_bl, q_ev_int, q_ev_str, q_ev_con, q_ev_tup, q_ev_lst, q_ev_bin, q_ev_neg, q_ev_not, q_ev_cmp, q_ev_chain, q_ev_and, q_ev_or, q_ev_ifx, q_ev_ix, q_ev_sl, q_ev_call, q_ev_blt, q_ev_isi, q_ev_met, q_ev_tupS, q_ev_lstS, q_ev_rev, q_ev_dnew, q_ev_dzip, q_ev_fnv, q_ev_calv, q_ev_val, q_evs_nil, q_evs_cons, q_evs_star, q_evD_nil, q_evD_cons, q_evAnd_cons, q_evAnd_cons2, q_evOr_cons, q_evOr_cons2, q_evIfs_none, q_evIfs_some, q_evo_none, q_evo_some, q_evi_ex, q_run1_ex, q_run1_set, q_run1_put, q_run1_aug, q_run1_augs, q_run1_ite, q_run1_whl, q_run1_for, q_run1_ret, q_run1_retN, q_run1_rais, q_run1_try, q_run1_brk, q_run1_cnt, q_run1_pas, q_runs_nil, q_runs_cons, q_runH_nil, q_runH_cons, tst, bltop, bindG, bindGs, cmpop, ofB, truthy, int1, int2, ltop, leop, binop, addop, subop, mulop, divop, modop, powop, ixop, items, litems, ditems, mkLst, mkDic, lenop, intop, isiop, tyOf, putop, src, wipeP, metop, metok, isLst, isDic, isStr, isLsq, appop, popL, getD, slop, revop, tupop, lstop, keyOf, inop, Aes.len, peq, scalP, eqF, isNon, isBl, f_law_number, e1, e3, x0, x1, x2, e4, l1]
        exact ((c1.trans c3).trans c4).end_rt0
      · by_cases x3 : w = 4
        · subst x3
          refine ⟨Rat.divInt (d - 999999) 1, h5, ?_, sz_20 (by omega) (by omega) (by omega), c1.trans c5⟩
          simp [body, q_ev_v, q_ev_non, q_ev_bl, q_ev_int, q_ev_str, q_ev_con, q_ev_tup, q_ev_lst, q_ev_bin, q_ev_neg, q_ev_not, q_ev_cmp, q_ev_chain, q_ev_and, q_ev_or, q_ev_ifx, q_ev_ix, q_ev_sl, q_ev_call, q_ev_blt, q_ev_isi, q_ev_met, q_ev_tupS, q_ev_lstS, q_ev_rev, q_ev_dnew, q_ev_dzip, q_ev_fnv, q_ev_calv, q_ev_val, q_evs_nil, q_evs_cons, q_evs_star, q_evD_nil, q_evD_cons, q_evAnd_cons, q_evAnd_cons2, q_evOr_cons, q_evOr_cons2, q_evIfs_none, q_evIfs_some, q_evo_none, q_evo_some, q_evi_ex, q_run1_ex, q_run1_set, q_run1_put, q_run1_aug, q_run1_augs, q_run1_ite, q_run1_whl, q_run1_for, q_run1_ret, q_run1_retN, q_run1_rais, q_run1_try, q_run1_brk, q_run1_cnt, q_run1_pas, q_runs_nil, q_runs_cons, q_runH_nil, q_runH_cons, tst, bltop, bindG, bindGs, cmpop, ofB, truthy, int1, int2, ltop, leop, binop, addop, subop, mulop, divop, modop, powop, ixop, items, litems, ditems, mkLst, mkDic, lenop, intop, isiop, tyOf, putop, src, wipeP, metop, metok, isLst, isDic, isStr, isLsq, appop, popL, getD, slop, revop, tupop, lstop, keyOf, inop, Aes.len, peq, scalP, eqF, isNon, isBl, f_law_number, e1, e5, l2]
          exact (c1.trans c5).end_rt0
        · refine ⟨Rat.divInt (d - 999999) (1 + e), h6, ?_, sz_20 (by omega) (by omega) (by omega), (c1.trans c5).trans c6⟩
          simp [body, q_ev_v, q_ev_non, q_ev_bl, q_ev_int, q_ev_str, q_ev_con, q_ev_tup, q_ev_lst, q_ev_bin, q_ev_neg, q_ev_not, q_ev_cmp, q_ev_chain, q_ev_and, q_ev_or, q_ev_ifx, q_ev_ix, q_ev_sl, q_ev_call, q_ev_blt, q_ev_isi, q_ev_met, q_ev_tupS, q_ev_lstS, q_ev_rev, q_ev_dnew, q_ev_dzip, q_ev_fnv, q_ev_calv, q_ev_val, q_evs_nil, q_evs_cons, q_evs_star, q_evD_nil, q_evD_cons, q_evAnd_cons, q_evAnd_cons2, q_evOr_cons, q_evOr_cons2, q_evIfs_none, q_evIfs_some, q_evo_none, q_evo_some, q_evi_ex, q_run1_ex, q_run1_set, q_run1_put, q_run1_aug, q_run1_augs, q_run1_ite, q_run1_whl, q_run1_for, q_run1_ret, q_run1_retN, q_run1_rais, q_run1_try, q_run1_brk, q_run1_cnt, q_run1_pas, q_runs_nil, q_runs_cons, q_runH_nil, q_runH_cons, tst, bltop, bindG, bindGs, cmpop, ofB, truthy, int1, int2, ltop, leop, binop, addop, subop, mulop, divop, modop, powop, ixop, items, litems, ditems, mkLst, mkDic, lenop, intop, isiop, tyOf, putop, src, wipeP, metop, metok, isLst, isDic, isStr, isLsq, appop, popL, getD, slop, revop, tupop, lstop, keyOf, inop, Aes.len, peq, scalP, eqF, isNon, isBl, f_law_number, e1, e5, x0, x1, x2, x3, e6, l3]
          exact ((c1.trans c5).trans c6).end_rt0
def ch (c : Nat) : PV := .str ⟨#[c]⟩
theorem strs_ch (cs : List Nat) : strsOf (cs.map ch) = some (cs.map fun c => (⟨#[c]⟩ : Str)) := by
  induction cs with
  | nil => rfl
  | cons c cs ih => rw [List.map_cons, List.map_cons]; unfold ch at *; simp only [strsOf, ih]; rfl
theorem join_ch (cs : List Nat) : (Txt.join "" (cs.map fun c => (⟨#[c]⟩ : Str))).cps.toList = cs := by
  have key : ∀ (cs : List Nat) (a : Array Nat), ((cs.map fun c => (⟨#[c]⟩ : Str)).foldl (fun acc p => acc ++ ("" : Str).cps ++ p.cps) a).toList = a.toList ++ cs := by
    intro cs
    induction cs with
    | nil => intro a; simp
    | cons c cs ih =>
      intro a
      rw [List.map_cons, List.foldl_cons, ih]
      have : ("" : Str).cps.toList = [] := by rfl
      simp [this]
  unfold Txt.join Builtin.Str.glued
  cases cs with
  | nil => rfl
  | cons c cs =>
    simp only [List.map_cons, List.drop_one, List.tail_cons, List.headD_cons]
    rw [key]
    simp
theorem letter {t : Int} (h0 : 0 ≤ t) (h1 : t < 26) : ∃ c, atI LET.cps.toList t = some c ∧ isLt c = true := by
  have hl : LET.cps.toList.length = 26 := by rfl
  obtain ⟨k, rfl⟩ := Int.eq_ofNat_of_zero_le h0
  have hk : k < LET.cps.toList.length := by omega
  refine ⟨LET.cps.toList[k], atI_nat hk, ?_⟩
  have : ∀ c ∈ LET.cps.toList, isLt c = true := by decide +kernel
  exact this _ (List.getElem_mem hk)
theorem s_label {PG : Pg} [Has PG "_law_label" f_law_label] [Has PG "_law_take" f_law_take] {n : Nat} (hn : 2 ≤ n) (h : MH) {m : Nat} (hD : Dk h m) :
    ∃ x h', call PG n "_law_label" [.ref m] [] [] h = .ok (.str x) h' ∧ isNm x = true ∧ Chg DK m h h' := by
  rw [call_ge (by omega) rfl]
  obtain ⟨w, h1, e1, w0, w1, c1⟩ := s_take (PG := PG) (n := n - 1) (by omega) h 8 hD (by decide) (by decide)
  obtain ⟨a, h2, e2, a0, a1, c2⟩ := s_take (PG := PG) (n := n - 1) (by omega) h1 6 c1.dk (by decide) (by decide)
  have hm : ∃ k : Nat, 1 ≤ k ∧ k ≤ 8 ∧ atI [PV.int 1, .int 1, .int 2, .int 3, .int 8, .int (1 + w)] a = some (.int (k : Int)) := by
    have : a = 0 ∨ a = 1 ∨ a = 2 ∨ a = 3 ∨ a = 4 ∨ a = 5 := by omega
    rcases this with rfl | rfl | rfl | rfl | rfl | rfl
    · exact ⟨1, by decide, by decide, rfl⟩
    · exact ⟨1, by decide, by decide, rfl⟩
    · exact ⟨2, by decide, by decide, rfl⟩
    · exact ⟨3, by decide, by decide, rfl⟩
    · exact ⟨8, by decide, by decide, rfl⟩
    · refine ⟨(1 + w).toNat, by omega, by omega, ?_⟩
      rw [Int.toNat_of_nonneg (by omega)]; rfl
  obtain ⟨k, k1, k8, ek⟩ := hm
  have lx : LET.length ≤ sizeLine := small (by decide) (Nat.le_refl _)
  have cr := comp_rel (P := PG) (cl := call PG (n - 1)) (elt := .ix (.v 1) (.call "_law_take" (.cons (.v 0) (.cons (.int 26) .nil)) [] .nil)) (gt := .nm 3) (it := .range1 (.v 2)) (ifs := .none) (own := [("k", 3)]) (ρ := [some (.ref m), some (.str LET), some (.int (k : Int)), none]) (h := h2) (h' := h2) (l := []) (g := fun k : Nat => PV.int (k : Int)) (xs := List.range k)
    (fun xs acc hh => Chg DK m h2 hh ∧ ∃ cs : List Nat, acc = cs.map ch ∧ (∀ c ∈ cs, isLt c = true) ∧ cs.length + xs.length = k)
    (by
      have := rng1 (P := PG) (cl := call PG (n - 1)) (e := .v 2) (ρ := [some (.ref m), some (.str LET), some (.int (k : Int)), none]) (h := h2) (h' := h2) (n := k) (by simp [body, q_ev_v, q_ev_non, q_ev_bl, q_ev_int, q_ev_str, q_ev_con, q_ev_tup, q_ev_lst, q_ev_bin, q_ev_neg, q_ev_not, q_ev_cmp, q_ev_chain, q_ev_and, q_ev_or, q_ev_ifx, q_ev_ix, q_ev_sl, q_ev_call, q_ev_blt, q_ev_isi, q_ev_met, q_ev_tupS, q_ev_lstS, q_ev_rev, q_ev_dnew, q_ev_dzip, q_ev_fnv, q_ev_calv, q_ev_val, q_evs_nil, q_evs_cons, q_evs_star, q_evD_nil, q_evD_cons, q_evAnd_cons, q_evAnd_cons2, q_evOr_cons, q_evOr_cons2, q_evIfs_none, q_evIfs_some, q_evo_none, q_evo_some, q_evi_ex, q_run1_ex, q_run1_set, q_run1_put, q_run1_aug, q_run1_augs, q_run1_ite, q_run1_whl, q_run1_for, q_run1_ret, q_run1_retN, q_run1_rais, q_run1_try, q_run1_brk, q_run1_cnt, q_run1_pas, q_runs_nil, q_runs_cons, q_runH_nil, q_runH_cons, tst, bltop, bindG, bindGs, cmpop, ofB, truthy, int1, int2, ltop, leop, binop, addop, subop, mulop, divop, modop, powop, ixop, items, litems, ditems, mkLst, mkDic, lenop, intop, isiop, tyOf, putop, src, wipeP, metop, metok, isLst, isDic, isStr, isLsq, appop, popL, getD, slop, revop, tupop, lstop, keyOf, inop, Aes.len, peq, scalP, eqF, isNon, isBl]) (by omega)
      simpa using this) ⟨c2.dk.chg, [], rfl, by simp, by simp⟩ (fun _ _ _ _ => chk_nil) (fun ys hh ⟨_, cs, q, _, hl⟩ => by
        subst q; simp only [List.length_nil, Nat.add_zero] at hl; rw [List.length_map]; exact small (by omega) (Nat.le_refl _)) (fun x xs acc hh ⟨c3, cs, q, hl, hk⟩ => by
        obtain ⟨t, h4, e4, t0, t1, c4⟩ := s_take (PG := PG) (n := n - 1) (by omega) hh 26 c3.dk (by decide) (by decide)
        obtain ⟨c, ec, hc⟩ := letter t0 t1
        refine ⟨some (ch c), h4, by simp [body, q_ev_v, q_ev_non, q_ev_bl, q_ev_int, q_ev_str, q_ev_con, q_ev_tup, q_ev_lst, q_ev_bin, q_ev_neg, q_ev_not, q_ev_cmp, q_ev_chain, q_ev_and, q_ev_or, q_ev_ifx, q_ev_ix, q_ev_sl, q_ev_call, q_ev_blt, q_ev_isi, q_ev_met, q_ev_tupS, q_ev_lstS, q_ev_rev, q_ev_dnew, q_ev_dzip, q_ev_fnv, q_ev_calv, q_ev_val, q_evs_nil, q_evs_cons, q_evs_star, q_evD_nil, q_evD_cons, q_evAnd_cons, q_evAnd_cons2, q_evOr_cons, q_evOr_cons2, q_evIfs_none, q_evIfs_some, q_evo_none, q_evo_some, q_evi_ex, q_run1_ex, q_run1_set, q_run1_put, q_run1_aug, q_run1_augs, q_run1_ite, q_run1_whl, q_run1_for, q_run1_ret, q_run1_retN, q_run1_rais, q_run1_try, q_run1_brk, q_run1_cnt, q_run1_pas, q_runs_nil, q_runs_cons, q_runH_nil, q_runH_cons, tst, bltop, bindG, bindGs, cmpop, ofB, truthy, int1, int2, ltop, leop, binop, addop, subop, mulop, divop, modop, powop, ixop, items, litems, ditems, mkLst, mkDic, lenop, intop, isiop, tyOf, putop, src, wipeP, metop, metok, isLst, isDic, isStr, isLsq, appop, popL, getD, slop, revop, tupop, lstop, keyOf, inop, Aes.len, peq, scalP, eqF, isNon, isBl, turnC, e4, lx, ec, ch], c3.trans c4, cs ++ [c], by simp [q, addO], ?_, by simp at hk ⊢; omega⟩
        intro y hy
        rcases List.mem_append.mp hy with hy | hy
        · exact hl y hy
        · rw [List.mem_singleton] at hy; subst hy; exact hc) false
  obtain ⟨ys, h3, ey, c3, cs, rfl, hcs, hk⟩ := cr
  simp only [List.length_nil, Nat.add_zero] at hk
  have er : ev PG (call PG (n - 1)) c_law_label_1 [some (.ref m), some (.str LET), some (.int (k : Int)), none] h2 = .ok (.lst (cs.map ch)) h3 := ey
  have c13 := (c1.trans c2).trans c3
  refine ⟨Txt.join "" (cs.map fun c => (⟨#[c]⟩ : Str)), h3, ?_, ?_, c13⟩
  · have ej : joinop (.str "") (.lst (cs.map ch)) h3 = .ok (.str (Txt.join "" (cs.map fun c => (⟨#[c]⟩ : Str)))) h3 := by
      unfold joinop
      simp only [items, strs_ch]
      have e0 : ("" : Str).length = 0 := rfl
      have e1 : ((cs.map fun c => (⟨#[c]⟩ : Str)).map (·.length)).sum = cs.length := by
        have : ∀ cs : List Nat, ((cs.map fun c => (⟨#[c]⟩ : Str)).map (·.length)).sum = cs.length := by
          intro cs
          induction cs with
          | nil => rfl
          | cons c cs ih => rw [List.map_cons, List.map_cons, List.sum_cons, ih, List.length_cons]; show 1 + _ = _; omega
        exact this cs
      rw [e1, e0, if_pos (by omega)]
    have el : (("abcdefghijklmnopqrstuvwxyz" : Str)) = LET := rfl
    simp [body, q_ev_v, q_ev_non, q_ev_bl, q_ev_int, q_ev_str, q_ev_con, q_ev_tup, q_ev_lst, q_ev_bin, q_ev_neg, q_ev_not, q_ev_cmp, q_ev_chain, q_ev_and, q_ev_or, q_ev_ifx, q_ev_ix, q_ev_sl, q_ev_call, q_ev_blt, q_ev_isi, q_ev_met, q_ev_tupS, q_ev_lstS, q_ev_rev, q_ev_dnew, q_ev_dzip, q_ev_fnv, q_ev_calv, q_ev_val, q_evs_nil, q_evs_cons, q_evs_star, q_evD_nil, q_evD_cons, q_evAnd_cons, q_evAnd_cons2, q_evOr_cons, q_evOr_cons2, q_evIfs_none, q_evIfs_some, q_evo_none, q_evo_some, q_evi_ex, q_run1_ex, q_run1_set, q_run1_put, q_run1_aug, q_run1_augs, q_run1_ite, q_run1_whl, q_run1_for, q_run1_ret, q_run1_retN, q_run1_rais, q_run1_try, q_run1_brk, q_run1_cnt, q_run1_pas, q_runs_nil, q_runs_cons, q_runH_nil, q_runH_cons, tst, bltop, bindG, bindGs, cmpop, ofB, truthy, int1, int2, ltop, leop, binop, addop, subop, mulop, divop, modop, powop, ixop, items, litems, ditems, mkLst, mkDic, lenop, intop, isiop, tyOf, putop, src, wipeP, metop, metok, isLst, isDic, isStr, isLsq, appop, popL, getD, slop, revop, tupop, lstop, keyOf, inop, Aes.len, peq, scalP, eqF, isNon, isBl, f_law_label, el, e1, e2, ek, er, ej]
    exact c13.end_rt0
  · unfold isNm
    rw [Bool.and_eq_true, decide_eq_true_eq, len_cps, join_ch]
    exact ⟨by omega, List.all_eq_true.mpr hcs⟩
end Mx.FA

end

section
set_option linter.all false
set_option maxRecDepth 100000
set_option maxHeartbeats 4000000
set_option exponentiation.threshold 20000
namespace Mx.FA
open PySem PySem.Spec PyProof.Rows L2 Mx

/-- names as a book has them -/
structure NS (ns : List Str) : Prop where
  up : ascS ns = true
  nm : ∀ k ∈ ns, isNm k = true
theorem NS.nd {ns : List Str} (s : NS ns) : ns.Nodup := ascS_nodup s.up
theorem sort_tb {α : Type} {r : Bool} {g : α → PV} {t : List (Str × α)} {m : Nat} {h : MH} (e : h[m]? = some (.dic (tb g t))) (hl : t.length ≤ 63) : sortop r (.ref m) h = mkLst r (((t.map (·.1)).mergeSort leS).map .str) h := by
  unfold sortop
  have e1 : litems h (.ref m) = none := by simp [litems, e]
  have e2 : ditems h (.ref m) = some (tb g t) := by simp [ditems, e]
  rw [e1]
  simp only [e2, tb_strs]
  rw [if_pos (by rw [List.length_map]; omega)]
def bt (_ : Unit) : PV := .bl true
theorem sput_ne {α : Type} (t : List (Str × α)) (k : Str) (v : α) : sput t k v ≠ [] := by
  intro e
  have : k ∈ (sput t k v).map (·.1) := by
    rw [sput_keys]
    split
    · assumption
    · simp
  rw [e] at this
  cases this
theorem sput_keys_mem {α : Type} {t : List (Str × α)} {k : Str} {v : α} {x : Str} (h : x ∈ (sput t k v).map (·.1)) : x ∈ t.map (·.1) ∨ x = k := by
  rw [sput_keys] at h
  split at h
  · exact .inl h
  · simpa using h
theorem s_labels {PG : Pg} [Has PG "_law_labels" f_law_labels] [Has PG "_law_take" f_law_take] [Has PG "_law_label" f_law_label] {n : Nat} (hn : 3 ≤ n) (h : MH) {m : Nat} (hD : Dk h m) (most : Int) (m1 : 1 ≤ most) (m2 : most ≤ 40) :
    ∃ ns h', call PG n "_law_labels" [.ref m, .int most] [] [] h = .ok (.tup (ns.map .str)) h' ∧ NS ns ∧ ns ≠ [] ∧ (ns.length : Int) ≤ most ∧ Chg DK m h h' := by
  rw [call_ge (by omega) rfl]
  obtain ⟨w, h1, e1, w0, w1, c1⟩ := s_take (PG := PG) (n := n - 1) (by omega) (h ++ [.dic []]) most (hD.app _) m1 (by omega)
  obtain ⟨g1, rfl, c1'⟩ := c1.split hD.lt
  have lg := c1'.len
  have el : ∃ h2 t w', run1 PG (call PG (n - 1)) l_law_labels_1 [some (.ref m), some (.int most), some (.ref h.length), none] (h ++ [.dic []]) = .nx [some (.ref m), some (.int most), some (.ref h.length), w'] (h2 ++ [.dic (tb bt t)]) ∧ Chg DK m h h2 ∧ (t.map (·.1)).Nodup ∧ (∀ k ∈ t.map (·.1), isNm k = true) ∧ t ≠ [] ∧ (t.length : Int) ≤ most := by
    obtain ⟨ρ', hh, e, h2, t, w', rfl, rfl, c2, nd, nm, ne, le⟩ := for_rel (α := Nat) (g := fun k : Nat => PV.int (k : Int)) (l := []) (body := turnF PG (call PG (n - 1)) (.nm 3) (.cons (.put (.v 2) (.call "_law_label" (.cons (.v 0) .nil) [] .nil) (.bl true)) .nil))
      (fun xs ρ hh => ∃ h2 t w', ρ = [some (.ref m), some (.int most), some (.ref h.length), w'] ∧ hh = h2 ++ [.dic (tb bt t)] ∧ Chg DK m h h2 ∧ (t.map (·.1)).Nodup ∧ (∀ k ∈ t.map (·.1), isNm k = true) ∧ (t ≠ [] ∨ xs ≠ []) ∧ (t.length : Int) + xs.length ≤ most) (fun _ _ _ _ => chk_nil) (fun x xs ρ hh ⟨h2, t, w', a, b, c2, nd, nm, ne, le⟩ => by
        subst a; subst b
        obtain ⟨y, h3, e3, ny, c3⟩ := s_label (PG := PG) (n := n - 1) (by omega) (h2 ++ [.dic (tb bt t)]) (c2.dk.app _)
        obtain ⟨g3, rfl, c3'⟩ := c3.split c2.dk.lt
        have l2 := c2.len
        have l3 := c3'.len
        have eg : (g3 ++ [MO.dic (tb bt t)])[h.length]? = some (.dic (tb bt t)) := by rw [← l2, ← l3]; simp
        have es : ∀ o, (g3 ++ [MO.dic (tb bt t)]).set h.length o = g3 ++ [o] := fun o => by rw [← l2, ← l3]; simp
        have zl : (tb bt t).length < sizeLine := by rw [tb_len, sizeLine_eq]; omega
        have ep : kput (tb bt t) (.inr y) (.bl true) = tb bt (sput t y ()) := kput_tb (g := bt) (v := ())
        have e4 : ∃ w'', turnF PG (call PG (n - 1)) (.nm 3) (.cons (.put (.v 2) (.call "_law_label" (.cons (.v 0) .nil) [] .nil) (.bl true)) .nil) (.int (x : Int)) [some (.ref m), some (.int most), some (.ref h.length), w'] (h2 ++ [.dic (tb bt t)]) = .nx [some (.ref m), some (.int most), some (.ref h.length), w''] (g3 ++ [.dic (tb bt (sput t y ()))]) := ⟨some (.int x), by
          simp [body, q_ev_v, q_ev_non, q_ev_bl, q_ev_int, q_ev_str, q_ev_con, q_ev_tup, q_ev_lst, q_ev_bin, q_ev_neg, q_ev_not, q_ev_cmp, q_ev_chain, q_ev_and, q_ev_or, q_ev_ifx, q_ev_ix, q_ev_sl, q_ev_call, q_ev_blt, q_ev_isi, q_ev_met, q_ev_tupS, q_ev_lstS, q_ev_rev, q_ev_dnew, q_ev_dzip, q_ev_fnv, q_ev_calv, q_ev_val, q_evs_nil, q_evs_cons, q_evs_star, q_evD_nil, q_evD_cons, q_evAnd_cons, q_evAnd_cons2, q_evOr_cons, q_evOr_cons2, q_evIfs_none, q_evIfs_some, q_evo_none, q_evo_some, q_evi_ex, q_run1_ex, q_run1_set, q_run1_put, q_run1_aug, q_run1_augs, q_run1_ite, q_run1_whl, q_run1_for, q_run1_ret, q_run1_retN, q_run1_rais, q_run1_try, q_run1_brk, q_run1_cnt, q_run1_pas, q_runs_nil, q_runs_cons, q_runH_nil, q_runH_cons, tst, bltop, bindG, bindGs, cmpop, ofB, truthy, int1, int2, ltop, leop, binop, addop, subop, mulop, divop, modop, powop, ixop, items, litems, ditems, mkLst, mkDic, lenop, intop, isiop, tyOf, putop, src, wipeP, metop, metok, isLst, isDic, isStr, isLsq, appop, popL, getD, slop, revop, tupop, lstop, keyOf, inop, Aes.len, peq, scalP, eqF, isNon, isBl, turnF, e3, eg, es, zl, ep]⟩
        obtain ⟨w'', e4⟩ := e4
        refine ⟨_, _, .inl e4, g3, sput t y (), w'', rfl, rfl, c2.trans c3', sput_nodup nd, fun k hk => ?_, .inl (sput_ne t y ()), ?_⟩
        · rcases sput_keys_mem hk with q | rfl
          · exact nm k q
          · exact ny
        · have := sput_len_le (t := t) (k := y) (v := ())
          simp only [List.length_cons] at le
          omega) (List.range (1 + w).toNat) [some (.ref m), some (.int most), some (.ref h.length), none] (g1 ++ [.dic []]) ⟨g1, [], none, rfl, rfl, c1', by simp, by simp, .inr (by
            intro q
            have := congrArg List.length q
            simp at this; omega), by simp; omega⟩
    have er := rng1 (P := PG) (cl := call PG (n - 1)) (e := .bin .add false (.int 1) (.call "_law_take" (.cons (.v 0) (.cons (.v 1) .nil)) [] .nil)) (ρ := [some (.ref m), some (.int most), some (.ref h.length), none]) (h := h ++ [.dic []]) (h' := g1 ++ [.dic []]) (n := 1 + w) (by simp [body, q_ev_v, q_ev_non, q_ev_bl, q_ev_int, q_ev_str, q_ev_con, q_ev_tup, q_ev_lst, q_ev_bin, q_ev_neg, q_ev_not, q_ev_cmp, q_ev_chain, q_ev_and, q_ev_or, q_ev_ifx, q_ev_ix, q_ev_sl, q_ev_call, q_ev_blt, q_ev_isi, q_ev_met, q_ev_tupS, q_ev_lstS, q_ev_rev, q_ev_dnew, q_ev_dzip, q_ev_fnv, q_ev_calv, q_ev_val, q_evs_nil, q_evs_cons, q_evs_star, q_evD_nil, q_evD_cons, q_evAnd_cons, q_evAnd_cons2, q_evOr_cons, q_evOr_cons2, q_evIfs_none, q_evIfs_some, q_evo_none, q_evo_some, q_evi_ex, q_run1_ex, q_run1_set, q_run1_put, q_run1_aug, q_run1_augs, q_run1_ite, q_run1_whl, q_run1_for, q_run1_ret, q_run1_retN, q_run1_rais, q_run1_try, q_run1_brk, q_run1_cnt, q_run1_pas, q_runs_nil, q_runs_cons, q_runH_nil, q_runH_cons, tst, bltop, bindG, bindGs, cmpop, ofB, truthy, int1, int2, ltop, leop, binop, addop, subop, mulop, divop, modop, powop, ixop, items, litems, ditems, mkLst, mkDic, lenop, intop, isiop, tyOf, putop, src, wipeP, metop, metok, isLst, isDic, isStr, isLsq, appop, popL, getD, slop, revop, tupop, lstop, keyOf, inop, Aes.len, peq, scalP, eqF, isNon, isBl, e1]) (by omega)
    refine ⟨h2, t, w', (for_run rfl er).trans e, c2, nd, nm, ?_, ?_⟩
    · rcases ne with q | q
      · exact q
      · exact absurd rfl q
    · simpa using le
  obtain ⟨h2, t, w', el, c2, nd, nm, ne, le⟩ := el
  have l2 := c2.len
  have es := sort_tb (r := false) (g := bt) (t := t) (m := h.length) (h := h2 ++ [.dic (tb bt t)]) (by rw [← l2]; simp) (by omega)
  refine ⟨(t.map (·.1)).mergeSort leS, h2, ?_, ⟨sortS_asc nd, fun k hk => nm k ((List.mem_mergeSort).mp hk)⟩, ?_, ?_, c2⟩
  · simp [body, q_ev_v, q_ev_non, q_ev_bl, q_ev_int, q_ev_str, q_ev_con, q_ev_tup, q_ev_lst, q_ev_bin, q_ev_neg, q_ev_not, q_ev_cmp, q_ev_chain, q_ev_and, q_ev_or, q_ev_ifx, q_ev_ix, q_ev_sl, q_ev_call, q_ev_blt, q_ev_isi, q_ev_met, q_ev_tupS, q_ev_lstS, q_ev_rev, q_ev_dnew, q_ev_dzip, q_ev_fnv, q_ev_calv, q_ev_val, q_evs_nil, q_evs_cons, q_evs_star, q_evD_nil, q_evD_cons, q_evAnd_cons, q_evAnd_cons2, q_evOr_cons, q_evOr_cons2, q_evIfs_none, q_evIfs_some, q_evo_none, q_evo_some, q_evi_ex, q_run1_ex, q_run1_set, q_run1_put, q_run1_aug, q_run1_augs, q_run1_ite, q_run1_whl, q_run1_for, q_run1_ret, q_run1_retN, q_run1_rais, q_run1_try, q_run1_brk, q_run1_cnt, q_run1_pas, q_runs_nil, q_runs_cons, q_runH_nil, q_runH_cons, tst, bltop, bindG, bindGs, cmpop, ofB, truthy, int1, int2, ltop, leop, binop, addop, subop, mulop, divop, modop, powop, ixop, items, litems, ditems, mkLst, mkDic, lenop, intop, isiop, tyOf, putop, src, wipeP, metop, metok, isLst, isDic, isStr, isLsq, appop, popL, getD, slop, revop, tupop, lstop, keyOf, inop, Aes.len, peq, scalP, eqF, isNon, isBl, f_law_labels, kmerge_nil, el, es]
    exact c2.end_rt DK.below
  · intro q
    have := congrArg List.length q
    rw [List.length_mergeSort, List.length_map] at this
    exact ne (List.length_eq_zero_iff.mp this)
  · rw [List.length_mergeSort, List.length_map]; exact le
theorem s_lain {PG : Pg} [Has PG "_law_lain" f_law_lain] {n : Nat} (hn : 1 ≤ n) (h : MH) {m : Nat} (c : Rat) (t : Tab) (e : h[m]? = some (.dic (tb nq t))) (hl : t.length ≤ 63) : call PG n "_law_lain" [nq c, .ref m] [] [] h = .ok (fm (lain c t)) h := by
  rw [call_ge (by omega) rfl]
  have ec : ev PG (call PG (n - 1)) c_law_lain_1 [some (nq c), some (.ref m), none] h = .ok (.lst ((lain c t).2.map tm)) h := by
    have e1 : sortop false (.ref m) h = .ok (.lst ((keysT t).map .str)) h := by
      rw [sort_dic (g := nq) (t := t) e hl]; rfl
    have := comp_fl (P := PG) (cl := call PG (n - 1)) (elt := .tup (.cons (.v 2) (.cons (.ix (.v 1) (.v 2)) .nil))) (gt := .nm 2) (it := .ex (.blt .sorted false (.cons (.v 1) .nil))) (ifs := .some (.cmp .ne (.ix (.v 1) (.v 2)) (.tup (.cons (.int 0) (.cons (.int 1) .nil))))) (own := [("label", 2)]) (ρ := [some (nq c), some (.ref m), none]) (h := h) (h' := h) (l := []) (g := PV.str) (xs := keysT t) (p := fun k => decide (val t k ≠ 0)) (f := fun k => tm (k, val t k))
      (by simp [body, q_ev_v, q_ev_non, q_ev_bl, q_ev_int, q_ev_str, q_ev_con, q_ev_tup, q_ev_lst, q_ev_bin, q_ev_neg, q_ev_not, q_ev_cmp, q_ev_chain, q_ev_and, q_ev_or, q_ev_ifx, q_ev_ix, q_ev_sl, q_ev_call, q_ev_blt, q_ev_isi, q_ev_met, q_ev_tupS, q_ev_lstS, q_ev_rev, q_ev_dnew, q_ev_dzip, q_ev_fnv, q_ev_calv, q_ev_val, q_evs_nil, q_evs_cons, q_evs_star, q_evD_nil, q_evD_cons, q_evAnd_cons, q_evAnd_cons2, q_evOr_cons, q_evOr_cons2, q_evIfs_none, q_evIfs_some, q_evo_none, q_evo_some, q_evi_ex, q_run1_ex, q_run1_set, q_run1_put, q_run1_aug, q_run1_augs, q_run1_ite, q_run1_whl, q_run1_for, q_run1_ret, q_run1_retN, q_run1_rais, q_run1_try, q_run1_brk, q_run1_cnt, q_run1_pas, q_runs_nil, q_runs_cons, q_runH_nil, q_runH_cons, tst, bltop, bindG, bindGs, cmpop, ofB, truthy, int1, int2, ltop, leop, binop, addop, subop, mulop, divop, modop, powop, ixop, items, litems, ditems, mkLst, mkDic, lenop, intop, isiop, tyOf, putop, src, wipeP, metop, metok, isLst, isDic, isStr, isLsq, appop, popL, getD, slop, revop, tupop, lstop, keyOf, inop, Aes.len, peq, scalP, eqF, isNon, isBl, e1]) chk_nil (by rw [keysT_len]; exact small (by omega) (Nat.le_refl _)) (fun k hk => by
        obtain ⟨x, hx⟩ := sget_mem (keysT_mem.mp hk)
        have e3 : kget (tb nq t) (.inr k) = some (nq (val t k)) := by rw [kget_tb]; unfold val; rw [hx]; rfl
        have e4 := peq_nq h (val t k) 0
        rw [nq_zero] at e4
        by_cases z : val t k = 0
        · rw [z, nq_zero] at e3
          rw [z, nq_zero] at e4
          simp [body, q_ev_v, q_ev_non, q_ev_bl, q_ev_int, q_ev_str, q_ev_con, q_ev_tup, q_ev_lst, q_ev_bin, q_ev_neg, q_ev_not, q_ev_cmp, q_ev_chain, q_ev_and, q_ev_or, q_ev_ifx, q_ev_ix, q_ev_sl, q_ev_call, q_ev_blt, q_ev_isi, q_ev_met, q_ev_tupS, q_ev_lstS, q_ev_rev, q_ev_dnew, q_ev_dzip, q_ev_fnv, q_ev_calv, q_ev_val, q_evs_nil, q_evs_cons, q_evs_star, q_evD_nil, q_evD_cons, q_evAnd_cons, q_evAnd_cons2, q_evOr_cons, q_evOr_cons2, q_evIfs_none, q_evIfs_some, q_evo_none, q_evo_some, q_evi_ex, q_run1_ex, q_run1_set, q_run1_put, q_run1_aug, q_run1_augs, q_run1_ite, q_run1_whl, q_run1_for, q_run1_ret, q_run1_retN, q_run1_rais, q_run1_try, q_run1_brk, q_run1_cnt, q_run1_pas, q_runs_nil, q_runs_cons, q_runH_nil, q_runH_cons, tst, bltop, bindG, bindGs, cmpop, ofB, truthy, int1, int2, ltop, leop, binop, addop, subop, mulop, divop, modop, powop, ixop, items, litems, ditems, mkLst, mkDic, lenop, intop, isiop, tyOf, putop, src, wipeP, metop, metok, isLst, isDic, isStr, isLsq, appop, popL, getD, slop, revop, tupop, lstop, keyOf, inop, Aes.len, peq, scalP, eqF, isNon, isBl, turnC, e, e3, -peq, e4, z]
        · rw [decide_eq_false z] at e4
          simp [body, q_ev_v, q_ev_non, q_ev_bl, q_ev_int, q_ev_str, q_ev_con, q_ev_tup, q_ev_lst, q_ev_bin, q_ev_neg, q_ev_not, q_ev_cmp, q_ev_chain, q_ev_and, q_ev_or, q_ev_ifx, q_ev_ix, q_ev_sl, q_ev_call, q_ev_blt, q_ev_isi, q_ev_met, q_ev_tupS, q_ev_lstS, q_ev_rev, q_ev_dnew, q_ev_dzip, q_ev_fnv, q_ev_calv, q_ev_val, q_evs_nil, q_evs_cons, q_evs_star, q_evD_nil, q_evD_cons, q_evAnd_cons, q_evAnd_cons2, q_evOr_cons, q_evOr_cons2, q_evIfs_none, q_evIfs_some, q_evo_none, q_evo_some, q_evi_ex, q_run1_ex, q_run1_set, q_run1_put, q_run1_aug, q_run1_augs, q_run1_ite, q_run1_whl, q_run1_for, q_run1_ret, q_run1_retN, q_run1_rais, q_run1_try, q_run1_brk, q_run1_cnt, q_run1_pas, q_runs_nil, q_runs_cons, q_runH_nil, q_runH_cons, tst, bltop, bindG, bindGs, cmpop, ofB, truthy, int1, int2, ltop, leop, binop, addop, subop, mulop, divop, modop, powop, ixop, items, litems, ditems, mkLst, mkDic, lenop, intop, isiop, tyOf, putop, src, wipeP, metop, metok, isLst, isDic, isStr, isLsq, appop, popL, getD, slop, revop, tupop, lstop, keyOf, inop, Aes.len, peq, scalP, eqF, isNon, isBl, turnC, e, e3, -peq, e4, z, tm]) false
    refine this.trans ?_
    show mkLst false _ _ = _
    unfold lain mkLst
    simp [Function.comp_def]
  simp [body, q_ev_v, q_ev_non, q_ev_bl, q_ev_int, q_ev_str, q_ev_con, q_ev_tup, q_ev_lst, q_ev_bin, q_ev_neg, q_ev_not, q_ev_cmp, q_ev_chain, q_ev_and, q_ev_or, q_ev_ifx, q_ev_ix, q_ev_sl, q_ev_call, q_ev_blt, q_ev_isi, q_ev_met, q_ev_tupS, q_ev_lstS, q_ev_rev, q_ev_dnew, q_ev_dzip, q_ev_fnv, q_ev_calv, q_ev_val, q_evs_nil, q_evs_cons, q_evs_star, q_evD_nil, q_evD_cons, q_evAnd_cons, q_evAnd_cons2, q_evOr_cons, q_evOr_cons2, q_evIfs_none, q_evIfs_some, q_evo_none, q_evo_some, q_evi_ex, q_run1_ex, q_run1_set, q_run1_put, q_run1_aug, q_run1_augs, q_run1_ite, q_run1_whl, q_run1_for, q_run1_ret, q_run1_retN, q_run1_rais, q_run1_try, q_run1_brk, q_run1_cnt, q_run1_pas, q_runs_nil, q_runs_cons, q_runH_nil, q_runH_cons, tst, bltop, bindG, bindGs, cmpop, ofB, truthy, int1, int2, ltop, leop, binop, addop, subop, mulop, divop, modop, powop, ixop, items, litems, ditems, mkLst, mkDic, lenop, intop, isiop, tyOf, putop, src, wipeP, metop, metok, isLst, isDic, isStr, isLsq, appop, popL, getD, slop, revop, tupop, lstop, keyOf, inop, Aes.len, peq, scalP, eqF, isNon, isBl, f_law_lain, ec]
  exact end_rt
/-- what is drawn of some names -/
structure SF (k : Nat) (ns : List Str) (f : Form) : Prop where
  vf : VF f
  bf : BF k f
  mem : ∀ t ∈ f.2, t.1 ∈ ns
  len : f.2.length ≤ ns.length
theorem lain_BF {k : Nat} {c : Rat} {t : Tab} (hc : sz c ≤ k) (ht : ∀ p ∈ t, sz p.2 ≤ k) (hk : 1 ≤ k) : BF k (lain c t) := ⟨hc, fun u hu => by
  unfold lain at hu
  obtain ⟨x, hx, rfl⟩ := List.mem_map.mp hu
  exact val_bound ht hk x⟩
theorem sput_all {t : Tab} {k : Str} {v : Rat} {P : Rat → Prop} (h : ∀ p ∈ t, P p.2) (hv : P v) : ∀ p ∈ sput t k v, P p.2 := by
  intro p hp
  unfold sput at hp
  split at hp
  · obtain ⟨q, hq, rfl⟩ := List.mem_map.mp hp
    split
    · exact hv
    · exact h q hq
  · rcases List.mem_append.mp hp with hp | hp
    · exact h p hp
    · rw [List.mem_singleton] at hp; subst hp; exact hv
theorem s_shape {PG : Pg} [Has PG "_law_shape" f_law_shape] [Has PG "_law_take" f_law_take] [Has PG "_law_number" f_law_number] [Has PG "_law_pair" f_law_pair] [Has PG "_law_gcd" f_law_gcd] [Has PG "_law_lain" f_law_lain] {n : Nat} (hn : 5 ≤ n) (h : MH) {m : Nat} (hD : Dk h m) (ns : List Str) (s : NS ns) (hl : ns.length ≤ 60) :
    ∃ f h', call PG n "_law_shape" [.ref m, .tup (ns.map .str)] [] [] h = .ok (fm f) h' ∧ SF 20 ns f ∧ Chg DK m h h' := by
  rw [call_ge (by omega) rfl]
  obtain ⟨w, h1, e1, w0, w1, c1⟩ := s_take (PG := PG) (n := n - 1) (by omega) (h ++ [.dic []]) 4 (hD.app _) (by decide) (by decide)
  obtain ⟨g1, rfl, c1'⟩ := c1.split hD.lt
  have el : ∃ h2 t w', run1 PG (call PG (n - 1)) l_law_shape_1 [some (.ref m), some (.tup (ns.map .str)), some (.ref h.length), some (.int w), none] (g1 ++ [.dic []]) = .nx [some (.ref m), some (.tup (ns.map .str)), some (.ref h.length), some (.int w), w'] (h2 ++ [.dic (tb nq t)]) ∧ Chg DK m h h2 ∧ (t.map (·.1)).Nodup ∧ (∀ k ∈ t.map (·.1), k ∈ ns) ∧ (∀ p ∈ t, sz p.2 ≤ 20) ∧ t.length ≤ ns.length := by
    obtain ⟨ρ', hh, e, h2, t, w', rfl, rfl, c2, nd, nm, sm, ls, le⟩ := for_rel (α := Str) (g := PV.str) (l := []) (body := turnF PG (call PG (n - 1)) (.nm 4) (.cons (.ite (.or (.cons (.cmp .eq (.v 3) (.int 3)) (.cons (.cmp .lt (.call "_law_take" (.cons (.v 0) (.cons (.int 4) .nil)) [] .nil) (.v 3)) .nil))) (.cons (.put (.v 2) (.v 4) (.call "_law_number" (.cons (.v 0) .nil) [] .nil)) .nil) .nil) .nil))
      (fun xs ρ hh => ∃ h2 t w', ρ = [some (.ref m), some (.tup (ns.map .str)), some (.ref h.length), some (.int w), w'] ∧ hh = h2 ++ [.dic (tb nq t)] ∧ Chg DK m h h2 ∧ (t.map (·.1)).Nodup ∧ (∀ k ∈ t.map (·.1), k ∈ ns) ∧ (∀ p ∈ t, sz p.2 ≤ 20) ∧ (∀ x ∈ xs, x ∈ ns) ∧ t.length + xs.length ≤ ns.length) (fun _ _ _ _ => chk_nil) (fun x xs ρ hh ⟨h2, t, w', a, b, c2, nd, nm, sm, ls, le⟩ => by
        subst a; subst b
        simp only [List.length_cons] at le
        -- a number is laid
        have put : ∀ g3, Chg DK m h g3 → ∃ r g4, call PG (n - 1) "_law_number" [.ref m] [] [] (g3 ++ [.dic (tb nq t)]) = .ok (nq r) (g4 ++ [.dic (tb nq t)]) ∧ sz r ≤ 20 ∧ Chg DK m h g4 ∧ (g4 ++ [MO.dic (tb nq t)])[h.length]? = some (.dic (tb nq t)) ∧ ∀ o, (g4 ++ [MO.dic (tb nq t)]).set h.length o = g4 ++ [o] := fun g3 c3 => by
          obtain ⟨r, h4, e4, sr, c4⟩ := s_number (PG := PG) (n := n - 1) (by omega) (g3 ++ [.dic (tb nq t)]) (c3.dk.app _)
          obtain ⟨g4, rfl, c4'⟩ := c4.split c3.dk.lt
          have l3 := c3.len
          have l4 := c4'.len
          exact ⟨r, g4, e4, sr, c3.trans c4', by rw [← l3, ← l4]; simp, fun o => by rw [← l3, ← l4]; simp⟩
        have zl : (tb nq t).length < sizeLine := by rw [tb_len, sizeLine_eq]; omega
        have fin : ∀ (r : Rat), sz r ≤ 20 → (((sput t x r).map (·.1)).Nodup ∧ (∀ k ∈ (sput t x r).map (·.1), k ∈ ns) ∧ (∀ p ∈ sput t x r, sz p.2 ≤ 20) ∧ (∀ x ∈ xs, x ∈ ns) ∧ (sput t x r).length + xs.length ≤ ns.length) := fun r sr => by
          refine ⟨sput_nodup nd, fun k hk => ?_, sput_all (P := fun q => sz q ≤ 20) sm sr, fun y hy => ls y (List.mem_cons_of_mem _ hy), ?_⟩
          · rcases sput_keys_mem hk with q | rfl
            · exact nm k q
            · exact ls _ List.mem_cons_self
          · have := sput_len_le (t := t) (k := x) (v := r)
            omega
        by_cases w3 : w = 3
        · subst w3
          obtain ⟨r, g4, e4, sr, c4, eg, es⟩ := put h2 c2
          refine ⟨[some (.ref m), some (.tup (ns.map .str)), some (.ref h.length), some (.int 3), some (.str x)], _, .inl ?_, g4, sput t x r, some (.str x), rfl, rfl, c4, fin r sr⟩
          simp [body, q_ev_v, q_ev_non, q_ev_bl, q_ev_int, q_ev_str, q_ev_con, q_ev_tup, q_ev_lst, q_ev_bin, q_ev_neg, q_ev_not, q_ev_cmp, q_ev_chain, q_ev_and, q_ev_or, q_ev_ifx, q_ev_ix, q_ev_sl, q_ev_call, q_ev_blt, q_ev_isi, q_ev_met, q_ev_tupS, q_ev_lstS, q_ev_rev, q_ev_dnew, q_ev_dzip, q_ev_fnv, q_ev_calv, q_ev_val, q_evs_nil, q_evs_cons, q_evs_star, q_evD_nil, q_evD_cons, q_evAnd_cons, q_evAnd_cons2, q_evOr_cons, q_evOr_cons2, q_evIfs_none, q_evIfs_some, q_evo_none, q_evo_some, q_evi_ex, q_run1_ex, q_run1_set, q_run1_put, q_run1_aug, q_run1_augs, q_run1_ite, q_run1_whl, q_run1_for, q_run1_ret, q_run1_retN, q_run1_rais, q_run1_try, q_run1_brk, q_run1_cnt, q_run1_pas, q_runs_nil, q_runs_cons, q_runH_nil, q_runH_cons, tst, bltop, bindG, bindGs, cmpop, ofB, truthy, int1, int2, ltop, leop, binop, addop, subop, mulop, divop, modop, powop, ixop, items, litems, ditems, mkLst, mkDic, lenop, intop, isiop, tyOf, putop, src, wipeP, metop, metok, isLst, isDic, isStr, isLsq, appop, popL, getD, slop, revop, tupop, lstop, keyOf, inop, Aes.len, peq, scalP, eqF, isNon, isBl, turnF, e4, eg, es, zl, kput_tb]
        · have wb : (w == 3) = false := beq_f w3
          obtain ⟨v, h5, e5, v0, v1, c5⟩ := s_take (PG := PG) (n := n - 1) (by omega) (h2 ++ [.dic (tb nq t)]) 4 (c2.dk.app _) (by decide) (by decide)
          obtain ⟨g5, rfl, c5'⟩ := c5.split c2.dk.lt
          by_cases vw : v < w
          · obtain ⟨r, g4, e4, sr, c4, eg, es⟩ := put g5 (c2.trans c5')
            refine ⟨[some (.ref m), some (.tup (ns.map .str)), some (.ref h.length), some (.int w), some (.str x)], _, .inl ?_, g4, sput t x r, some (.str x), rfl, rfl, c4, fin r sr⟩
            simp [body, q_ev_v, q_ev_non, q_ev_bl, q_ev_int, q_ev_str, q_ev_con, q_ev_tup, q_ev_lst, q_ev_bin, q_ev_neg, q_ev_not, q_ev_cmp, q_ev_chain, q_ev_and, q_ev_or, q_ev_ifx, q_ev_ix, q_ev_sl, q_ev_call, q_ev_blt, q_ev_isi, q_ev_met, q_ev_tupS, q_ev_lstS, q_ev_rev, q_ev_dnew, q_ev_dzip, q_ev_fnv, q_ev_calv, q_ev_val, q_evs_nil, q_evs_cons, q_evs_star, q_evD_nil, q_evD_cons, q_evAnd_cons, q_evAnd_cons2, q_evOr_cons, q_evOr_cons2, q_evIfs_none, q_evIfs_some, q_evo_none, q_evo_some, q_evi_ex, q_run1_ex, q_run1_set, q_run1_put, q_run1_aug, q_run1_augs, q_run1_ite, q_run1_whl, q_run1_for, q_run1_ret, q_run1_retN, q_run1_rais, q_run1_try, q_run1_brk, q_run1_cnt, q_run1_pas, q_runs_nil, q_runs_cons, q_runH_nil, q_runH_cons, tst, bltop, bindG, bindGs, cmpop, ofB, truthy, int1, int2, ltop, leop, binop, addop, subop, mulop, divop, modop, powop, ixop, items, litems, ditems, mkLst, mkDic, lenop, intop, isiop, tyOf, putop, src, wipeP, metop, metok, isLst, isDic, isStr, isLsq, appop, popL, getD, slop, revop, tupop, lstop, keyOf, inop, Aes.len, peq, scalP, eqF, isNon, isBl, turnF, wb, e5, vw, e4, eg, es, zl, kput_tb]
          · refine ⟨[some (.ref m), some (.tup (ns.map .str)), some (.ref h.length), some (.int w), some (.str x)], _, .inl ?_, g5, t, some (.str x), rfl, rfl, c2.trans c5', nd, nm, sm, fun y hy => ls y (List.mem_cons_of_mem _ hy), by omega⟩
            simp [body, q_ev_v, q_ev_non, q_ev_bl, q_ev_int, q_ev_str, q_ev_con, q_ev_tup, q_ev_lst, q_ev_bin, q_ev_neg, q_ev_not, q_ev_cmp, q_ev_chain, q_ev_and, q_ev_or, q_ev_ifx, q_ev_ix, q_ev_sl, q_ev_call, q_ev_blt, q_ev_isi, q_ev_met, q_ev_tupS, q_ev_lstS, q_ev_rev, q_ev_dnew, q_ev_dzip, q_ev_fnv, q_ev_calv, q_ev_val, q_evs_nil, q_evs_cons, q_evs_star, q_evD_nil, q_evD_cons, q_evAnd_cons, q_evAnd_cons2, q_evOr_cons, q_evOr_cons2, q_evIfs_none, q_evIfs_some, q_evo_none, q_evo_some, q_evi_ex, q_run1_ex, q_run1_set, q_run1_put, q_run1_aug, q_run1_augs, q_run1_ite, q_run1_whl, q_run1_for, q_run1_ret, q_run1_retN, q_run1_rais, q_run1_try, q_run1_brk, q_run1_cnt, q_run1_pas, q_runs_nil, q_runs_cons, q_runH_nil, q_runH_cons, tst, bltop, bindG, bindGs, cmpop, ofB, truthy, int1, int2, ltop, leop, binop, addop, subop, mulop, divop, modop, powop, ixop, items, litems, ditems, mkLst, mkDic, lenop, intop, isiop, tyOf, putop, src, wipeP, metop, metok, isLst, isDic, isStr, isLsq, appop, popL, getD, slop, revop, tupop, lstop, keyOf, inop, Aes.len, peq, scalP, eqF, isNon, isBl, turnF, wb, e5, vw]) ns [some (.ref m), some (.tup (ns.map .str)), some (.ref h.length), some (.int w), none] (g1 ++ [.dic []]) ⟨g1, [], none, rfl, rfl, c1', by simp, by simp, by simp, fun x hx => hx, by simp⟩
    exact ⟨h2, t, w', (for_run rfl (by simp [body, q_ev_v, q_ev_non, q_ev_bl, q_ev_int, q_ev_str, q_ev_con, q_ev_tup, q_ev_lst, q_ev_bin, q_ev_neg, q_ev_not, q_ev_cmp, q_ev_chain, q_ev_and, q_ev_or, q_ev_ifx, q_ev_ix, q_ev_sl, q_ev_call, q_ev_blt, q_ev_isi, q_ev_met, q_ev_tupS, q_ev_lstS, q_ev_rev, q_ev_dnew, q_ev_dzip, q_ev_fnv, q_ev_calv, q_ev_val, q_evs_nil, q_evs_cons, q_evs_star, q_evD_nil, q_evD_cons, q_evAnd_cons, q_evAnd_cons2, q_evOr_cons, q_evOr_cons2, q_evIfs_none, q_evIfs_some, q_evo_none, q_evo_some, q_evi_ex, q_run1_ex, q_run1_set, q_run1_put, q_run1_aug, q_run1_augs, q_run1_ite, q_run1_whl, q_run1_for, q_run1_ret, q_run1_retN, q_run1_rais, q_run1_try, q_run1_brk, q_run1_cnt, q_run1_pas, q_runs_nil, q_runs_cons, q_runH_nil, q_runH_cons, tst, bltop, bindG, bindGs, cmpop, ofB, truthy, int1, int2, ltop, leop, binop, addop, subop, mulop, divop, modop, powop, ixop, items, litems, ditems, mkLst, mkDic, lenop, intop, isiop, tyOf, putop, src, wipeP, metop, metok, isLst, isDic, isStr, isLsq, appop, popL, getD, slop, revop, tupop, lstop, keyOf, inop, Aes.len, peq, scalP, eqF, isNon, isBl])).trans e, c2, nd, nm, sm, by simpa using le⟩
  obtain ⟨h2, t, w', el, c2, nd, nm, sm, le⟩ := el
  obtain ⟨r, h3, e3, sr, c3⟩ := s_number (PG := PG) (n := n - 1) (by omega) (h2 ++ [.dic (tb nq t)]) (c2.dk.app _)
  obtain ⟨g3, rfl, c3'⟩ := c3.split c2.dk.lt
  have l2 := c2.len
  have l3 := c3'.len
  have e4 := s_lain (PG := PG) (n := n - 1) (by omega) (g3 ++ [.dic (tb nq t)]) (m := h.length) r t (by rw [← l2, ← l3]; simp) (by omega)
  refine ⟨lain r t, g3, ?_, ⟨lain_VF nd fun k hk => s.nm k (nm k hk), lain_BF sr sm (by decide), fun u hu => nm _ (lain_mem (List.mem_map.mpr ⟨u, hu, rfl⟩)), Nat.le_trans (lain_len ..) le⟩, c2.trans c3'⟩
  simp [body, q_ev_v, q_ev_non, q_ev_bl, q_ev_int, q_ev_str, q_ev_con, q_ev_tup, q_ev_lst, q_ev_bin, q_ev_neg, q_ev_not, q_ev_cmp, q_ev_chain, q_ev_and, q_ev_or, q_ev_ifx, q_ev_ix, q_ev_sl, q_ev_call, q_ev_blt, q_ev_isi, q_ev_met, q_ev_tupS, q_ev_lstS, q_ev_rev, q_ev_dnew, q_ev_dzip, q_ev_fnv, q_ev_calv, q_ev_val, q_evs_nil, q_evs_cons, q_evs_star, q_evD_nil, q_evD_cons, q_evAnd_cons, q_evAnd_cons2, q_evOr_cons, q_evOr_cons2, q_evIfs_none, q_evIfs_some, q_evo_none, q_evo_some, q_evi_ex, q_run1_ex, q_run1_set, q_run1_put, q_run1_aug, q_run1_augs, q_run1_ite, q_run1_whl, q_run1_for, q_run1_ret, q_run1_retN, q_run1_rais, q_run1_try, q_run1_brk, q_run1_cnt, q_run1_pas, q_runs_nil, q_runs_cons, q_runH_nil, q_runH_cons, tst, bltop, bindG, bindGs, cmpop, ofB, truthy, int1, int2, ltop, leop, binop, addop, subop, mulop, divop, modop, powop, ixop, items, litems, ditems, mkLst, mkDic, lenop, intop, isiop, tyOf, putop, src, wipeP, metop, metok, isLst, isDic, isStr, isLsq, appop, popL, getD, slop, revop, tupop, lstop, keyOf, inop, Aes.len, peq, scalP, eqF, isNon, isBl, f_law_shape, kmerge_nil, e1, el, e3, e4]
  exact (c2.trans c3').end_rt DK.below
end Mx.FA

end

section
set_option linter.all false
set_option maxRecDepth 100000
set_option maxHeartbeats 4000000
set_option exponentiation.threshold 20000
namespace Mx.FA
open PySem PySem.Spec PyProof.Rows L2 Mx

/-! the deck of a cell -/
theorem s_deck {PG : Pg} [Has PG "_law_deck" f_law_deck] {n : Nat} (hn : 1 ≤ n) (i : Nat) (h : MH) (ns : List Int) (hi : i < 64) : ∃ h', call PG n "_law_deck" [.lst (ns.map .int), .int i] [] [] h = .ok (.ref h.length) h' ∧ Dk h' h.length := by
  have f1 : fits 7919 (i : Int) := fit2 (k := 64) (m := 64) (by decide) (by omega)
  have f2 : fits 31 (i : Int) := fit2 (k := 64) (m := 64) (by decide) (by omega)
  -- what is made of the cell
  have key : ∀ c : Int, (∃ h', runs PG (call PG (n - 1)) (match f_law_deck.body with | .cons _ (.cons _ t) => t | _ => .nil) [some (.lst (ns.map .int)), some (.int i), some (.int c), none] h = .rt (.ref h.length) h' ∧ Dk h' h.length) := by
    intro c
    generalize hs : (c + 7919 * (i : Int) + 104729).fmod 2305843009213693951 = s
    have s0 : 0 ≤ s := by rw [← hs]; exact Int.fmod_nonneg_of_pos _ (by decide)
    have s1 : s < 2305843009213693951 := by rw [← hs]; exact Int.fmod_lt_of_pos _ (by decide)
    have ss : s.natAbs < 2 ^ 62 := by omega
    have m1 : fits s s := fit2 ss ss
    have m2 : fits (s * s) s := fit2 (k := 124) (by
      rw [Int.natAbs_mul]
      have := Nat.mul_lt_mul'' ss ss
      rw [← Nat.pow_add] at this
      exact this) ss
    generalize hr : (s * s * s + 31 * (i : Int) + 7).fmod 2305843009213693951 = r
    have r0 : 0 ≤ r := by rw [← hr]; exact Int.fmod_nonneg_of_pos _ (by decide)
    have r1 : r < 2305843009213693951 := by rw [← hr]; exact Int.fmod_lt_of_pos _ (by decide)
    by_cases hc : c < 1000000000000000000
    · refine ⟨h ++ [.lst [.int 0, .int r]], ?_, _, get_app_len, 0, r, by decide, r0, by omega, rfl⟩
      simp [body, q_ev_v, q_ev_non, q_ev_bl, q_ev_int, q_ev_str, q_ev_con, q_ev_tup, q_ev_lst, q_ev_bin, q_ev_neg, q_ev_not, q_ev_cmp, q_ev_chain, q_ev_and, q_ev_or, q_ev_ifx, q_ev_ix, q_ev_sl, q_ev_call, q_ev_blt, q_ev_isi, q_ev_met, q_ev_tupS, q_ev_lstS, q_ev_rev, q_ev_dnew, q_ev_dzip, q_ev_fnv, q_ev_calv, q_ev_val, q_evs_nil, q_evs_cons, q_evs_star, q_evD_nil, q_evD_cons, q_evAnd_cons, q_evAnd_cons2, q_evOr_cons, q_evOr_cons2, q_evIfs_none, q_evIfs_some, q_evo_none, q_evo_some, q_evi_ex, q_run1_ex, q_run1_set, q_run1_put, q_run1_aug, q_run1_augs, q_run1_ite, q_run1_whl, q_run1_for, q_run1_ret, q_run1_retN, q_run1_rais, q_run1_try, q_run1_brk, q_run1_cnt, q_run1_pas, q_runs_nil, q_runs_cons, q_runH_nil, q_runH_cons, tst, bltop, bindG, bindGs, cmpop, ofB, truthy, int1, int2, ltop, leop, binop, addop, subop, mulop, divop, modop, powop, ixop, items, litems, ditems, mkLst, mkDic, lenop, intop, isiop, tyOf, putop, src, wipeP, metop, metok, isLst, isDic, isStr, isLsq, appop, popL, getD, slop, revop, tupop, lstop, keyOf, inop, Aes.len, peq, scalP, eqF, isNon, isBl, f_law_deck, f1, f2, hs, m1, m2, hr, hc]
    · refine ⟨h ++ [.lst [.int (c - 1000000000000000000), .int r]], ?_, _, get_app_len, c - 1000000000000000000, r, by omega, r0, by omega, rfl⟩
      simp [body, q_ev_v, q_ev_non, q_ev_bl, q_ev_int, q_ev_str, q_ev_con, q_ev_tup, q_ev_lst, q_ev_bin, q_ev_neg, q_ev_not, q_ev_cmp, q_ev_chain, q_ev_and, q_ev_or, q_ev_ifx, q_ev_ix, q_ev_sl, q_ev_call, q_ev_blt, q_ev_isi, q_ev_met, q_ev_tupS, q_ev_lstS, q_ev_rev, q_ev_dnew, q_ev_dzip, q_ev_fnv, q_ev_calv, q_ev_val, q_evs_nil, q_evs_cons, q_evs_star, q_evD_nil, q_evD_cons, q_evAnd_cons, q_evAnd_cons2, q_evOr_cons, q_evOr_cons2, q_evIfs_none, q_evIfs_some, q_evo_none, q_evo_some, q_evi_ex, q_run1_ex, q_run1_set, q_run1_put, q_run1_aug, q_run1_augs, q_run1_ite, q_run1_whl, q_run1_for, q_run1_ret, q_run1_retN, q_run1_rais, q_run1_try, q_run1_brk, q_run1_cnt, q_run1_pas, q_runs_nil, q_runs_cons, q_runH_nil, q_runH_cons, tst, bltop, bindG, bindGs, cmpop, ofB, truthy, int1, int2, ltop, leop, binop, addop, subop, mulop, divop, modop, powop, ixop, items, litems, ditems, mkLst, mkDic, lenop, intop, isiop, tyOf, putop, src, wipeP, metop, metok, isLst, isDic, isStr, isLsq, appop, popL, getD, slop, revop, tupop, lstop, keyOf, inop, Aes.len, peq, scalP, eqF, isNon, isBl, f_law_deck, f1, f2, hs, m1, m2, hr, hc]
  rw [call_ge (by omega) rfl]
  have hbd : body PG (call PG (n - 1)) f_law_deck [.lst (ns.map .int), .int i] h = (runs PG (call PG (n - 1)) f_law_deck.body [some (.lst (ns.map .int)), some (.int i), none, none] h).res true h := rfl
  have hb : f_law_deck.body = .cons (.set (.nm 2) (.int 0)) (.cons (.ite (.cmp .lt (.v 1) (.blt .len false (.cons (.v 0) .nil))) (.cons (.set (.nm 2) (.ix (.v 0) (.v 1))) .nil) .nil) (match f_law_deck.body with | .cons _ (.cons _ t) => t | _ => .nil)) := rfl
  rw [hbd, hb]
  generalize hT : (match f_law_deck.body with | .cons _ (.cons _ t) => t | _ => Ass.nil) = T at key
  by_cases hlt : i < ns.length
  · obtain ⟨h', e, D⟩ := key ns[i]
    refine ⟨h', ?_, D⟩
    have hat : atI (ns.map PV.int) (i : Int) = some (.int ns[i]) := by
      rw [atI_nat (by rw [List.length_map]; exact hlt)]
      simp
    have hc : ((i : Int) < (ns.length : Int)) := by omega
    simp [body, q_ev_v, q_ev_non, q_ev_bl, q_ev_int, q_ev_str, q_ev_con, q_ev_tup, q_ev_lst, q_ev_bin, q_ev_neg, q_ev_not, q_ev_cmp, q_ev_chain, q_ev_and, q_ev_or, q_ev_ifx, q_ev_ix, q_ev_sl, q_ev_call, q_ev_blt, q_ev_isi, q_ev_met, q_ev_tupS, q_ev_lstS, q_ev_rev, q_ev_dnew, q_ev_dzip, q_ev_fnv, q_ev_calv, q_ev_val, q_evs_nil, q_evs_cons, q_evs_star, q_evD_nil, q_evD_cons, q_evAnd_cons, q_evAnd_cons2, q_evOr_cons, q_evOr_cons2, q_evIfs_none, q_evIfs_some, q_evo_none, q_evo_some, q_evi_ex, q_run1_ex, q_run1_set, q_run1_put, q_run1_aug, q_run1_augs, q_run1_ite, q_run1_whl, q_run1_for, q_run1_ret, q_run1_retN, q_run1_rais, q_run1_try, q_run1_brk, q_run1_cnt, q_run1_pas, q_runs_nil, q_runs_cons, q_runH_nil, q_runH_cons, tst, bltop, bindG, bindGs, cmpop, ofB, truthy, int1, int2, ltop, leop, binop, addop, subop, mulop, divop, modop, powop, ixop, items, litems, ditems, mkLst, mkDic, lenop, intop, isiop, tyOf, putop, src, wipeP, metop, metok, isLst, isDic, isStr, isLsq, appop, popL, getD, slop, revop, tupop, lstop, keyOf, inop, Aes.len, peq, scalP, eqF, isNon, isBl, hat, hc, hlt, e]
    exact res_kp
  · obtain ⟨h', e, D⟩ := key 0
    refine ⟨h', ?_, D⟩
    have hc : ¬ ((i : Int) < (ns.length : Int)) := by omega
    simp [body, q_ev_v, q_ev_non, q_ev_bl, q_ev_int, q_ev_str, q_ev_con, q_ev_tup, q_ev_lst, q_ev_bin, q_ev_neg, q_ev_not, q_ev_cmp, q_ev_chain, q_ev_and, q_ev_or, q_ev_ifx, q_ev_ix, q_ev_sl, q_ev_call, q_ev_blt, q_ev_isi, q_ev_met, q_ev_tupS, q_ev_lstS, q_ev_rev, q_ev_dnew, q_ev_dzip, q_ev_fnv, q_ev_calv, q_ev_val, q_evs_nil, q_evs_cons, q_evs_star, q_evD_nil, q_evD_cons, q_evAnd_cons, q_evAnd_cons2, q_evOr_cons, q_evOr_cons2, q_evIfs_none, q_evIfs_some, q_evo_none, q_evo_some, q_evi_ex, q_run1_ex, q_run1_set, q_run1_put, q_run1_aug, q_run1_augs, q_run1_ite, q_run1_whl, q_run1_for, q_run1_ret, q_run1_retN, q_run1_rais, q_run1_try, q_run1_brk, q_run1_cnt, q_run1_pas, q_runs_nil, q_runs_cons, q_runH_nil, q_runH_cons, tst, bltop, bindG, bindGs, cmpop, ofB, truthy, int1, int2, ltop, leop, binop, addop, subop, mulop, divop, modop, powop, ixop, items, litems, ditems, mkLst, mkDic, lenop, intop, isiop, tyOf, putop, src, wipeP, metop, metok, isLst, isDic, isStr, isLsq, appop, popL, getD, slop, revop, tupop, lstop, keyOf, inop, Aes.len, peq, scalP, eqF, isNon, isBl, hc, hlt, e]
    exact res_kp
/-! worth by the law -/
theorem W_fold (ts : List Tm) (e : Str → Rat) : ∀ s : Rat, ts.foldl (fun s t => s + t.2 * e t.1) s = s + W ts e := by
  induction ts with
  | nil => intro s; show s = s + 0; rw [Rat.add_zero]
  | cons t ts ih => intro s; rw [List.foldl_cons, ih]; show s + _ + _ = s + (_ + _); rw [Rat.add_assoc]
theorem s_lworth {PG : Pg} [Has PG "_law_worth" f_law_worth] [Has PG "_law_plus" f_law_plus] [Has PG "_law_pair" f_law_pair] [Has PG "_law_gcd" f_law_gcd] [Has PG "_law_times" f_law_times] {n : Nat} (hn : 4 ≤ n) (h : MH) (f : Form) {m : Nat} (t : Tab) (k : Nat) (em : h[m]? = some (.dic (tb nq t))) (hs : ∀ u ∈ f.2, u.1 ∈ t.map (·.1)) (hk : ∀ u ∈ f.2, sz u.2 + sz (val t u.1) ≤ k) (hl : sz f.1 + f.2.length * (k + 1) + k ≤ 8900) : call PG n "_law_worth" [fm f, .ref m] [] [] h = .ok (nq (worthF f (val t))) h := by
  rw [call_ge (by omega) rfl]
  have el : ∃ w w', run1 PG (call PG (n - 1)) l_law_worth_1 [some (fm f), some (.ref m), some (nq f.1), none, none] h = .nx [some (fm f), some (.ref m), some (nq (worthF f (val t))), w, w'] h := by
    have := for_fold (α := Tm) (g := tm) (l := []) (body := turnF PG (call PG (n - 1)) (.tp (.cons (.nm 3) (.cons (.nm 4) .nil))) (.cons (.set (.nm 2) (.call "_law_plus" (.cons (.v 2) (.cons (.call "_law_times" (.cons (.v 4) (.cons (.ix (.v 1) (.v 3)) .nil)) [] .nil) .nil)) [] .nil)) .nil))
      (E := fun (s : Rat × Option PV × Option PV) => [some (fm f), some (.ref m), some (nq s.1), s.2.1, s.2.2]) (H := fun _ => h) (st := fun s p => (s.1 + p.2 * val t p.1, some (.str p.1), some (nq p.2))) (fun xs s => sz s.1 + xs.length * (k + 1) + k ≤ 8900 ∧ ∀ u ∈ xs, u ∈ f.2) (fun _ => chk_nil) (fun x xs s ⟨j1, j2⟩ => by
        have hx := j2 x List.mem_cons_self
        have hz := hk x hx
        simp only [List.length_cons, Nat.succ_mul] at j1
        have hm := sz_mul x.2 (val t x.1)
        have ha := sz_add s.1 (x.2 * val t x.1)
        obtain ⟨y, hy⟩ := sget_mem (hs x hx)
        have eg : kget (tb nq t) (.inr x.1) = some (nq (val t x.1)) := by rw [kget_tb]; unfold val; rw [hy]; rfl
        have e1 := s_ltimes (PG := PG) (n := n - 1) (by omega) h x.2 (val t x.1) (by omega)
        have e2 := s_lplus (PG := PG) (n := n - 1) (by omega) h s.1 (x.2 * val t x.1) (by omega)
        refine ⟨?_, by show sz (s.1 + x.2 * val t x.1) + _ + _ ≤ _; omega, fun u hu => j2 u (List.mem_cons_of_mem _ hu)⟩
        simp [body, q_ev_v, q_ev_non, q_ev_bl, q_ev_int, q_ev_str, q_ev_con, q_ev_tup, q_ev_lst, q_ev_bin, q_ev_neg, q_ev_not, q_ev_cmp, q_ev_chain, q_ev_and, q_ev_or, q_ev_ifx, q_ev_ix, q_ev_sl, q_ev_call, q_ev_blt, q_ev_isi, q_ev_met, q_ev_tupS, q_ev_lstS, q_ev_rev, q_ev_dnew, q_ev_dzip, q_ev_fnv, q_ev_calv, q_ev_val, q_evs_nil, q_evs_cons, q_evs_star, q_evD_nil, q_evD_cons, q_evAnd_cons, q_evAnd_cons2, q_evOr_cons, q_evOr_cons2, q_evIfs_none, q_evIfs_some, q_evo_none, q_evo_some, q_evi_ex, q_run1_ex, q_run1_set, q_run1_put, q_run1_aug, q_run1_augs, q_run1_ite, q_run1_whl, q_run1_for, q_run1_ret, q_run1_retN, q_run1_rais, q_run1_try, q_run1_brk, q_run1_cnt, q_run1_pas, q_runs_nil, q_runs_cons, q_runH_nil, q_runH_cons, tst, bltop, bindG, bindGs, cmpop, ofB, truthy, int1, int2, ltop, leop, binop, addop, subop, mulop, divop, modop, powop, ixop, items, litems, ditems, mkLst, mkDic, lenop, intop, isiop, tyOf, putop, src, wipeP, metop, metok, isLst, isDic, isStr, isLsq, appop, popL, getD, slop, revop, tupop, lstop, keyOf, inop, Aes.len, peq, scalP, eqF, isNon, isBl, turnF, tm, em, eg, e1, e2]) f.2 (f.1, none, none) ⟨hl, fun u hu => hu⟩
    have e2 : ∀ (ts : List Tm) (s : Rat) (w w' : Option PV), (ts.foldl (fun (s : Rat × Option PV × Option PV) p => (s.1 + p.2 * val t p.1, some (.str p.1), some (nq p.2))) (s, w, w')).1 = ts.foldl (fun s u => s + u.2 * val t u.1) s := by
      intro ts
      induction ts with
      | nil => intro s w w'; rfl
      | cons t ts ih => intro s w w'; exact ih _ _ _
    rw [e2, W_fold, ← worthF_W] at this
    exact ⟨_, _, (for_run rfl (by simp [body, q_ev_v, q_ev_non, q_ev_bl, q_ev_int, q_ev_str, q_ev_con, q_ev_tup, q_ev_lst, q_ev_bin, q_ev_neg, q_ev_not, q_ev_cmp, q_ev_chain, q_ev_and, q_ev_or, q_ev_ifx, q_ev_ix, q_ev_sl, q_ev_call, q_ev_blt, q_ev_isi, q_ev_met, q_ev_tupS, q_ev_lstS, q_ev_rev, q_ev_dnew, q_ev_dzip, q_ev_fnv, q_ev_calv, q_ev_val, q_evs_nil, q_evs_cons, q_evs_star, q_evD_nil, q_evD_cons, q_evAnd_cons, q_evAnd_cons2, q_evOr_cons, q_evOr_cons2, q_evIfs_none, q_evIfs_some, q_evo_none, q_evo_some, q_evi_ex, q_run1_ex, q_run1_set, q_run1_put, q_run1_aug, q_run1_augs, q_run1_ite, q_run1_whl, q_run1_for, q_run1_ret, q_run1_retN, q_run1_rais, q_run1_try, q_run1_brk, q_run1_cnt, q_run1_pas, q_runs_nil, q_runs_cons, q_runH_nil, q_runH_cons, tst, bltop, bindG, bindGs, cmpop, ofB, truthy, int1, int2, ltop, leop, binop, addop, subop, mulop, divop, modop, powop, ixop, items, litems, ditems, mkLst, mkDic, lenop, intop, isiop, tyOf, putop, src, wipeP, metop, metok, isLst, isDic, isStr, isLsq, appop, popL, getD, slop, revop, tupop, lstop, keyOf, inop, Aes.len, peq, scalP, eqF, isNon, isBl, fm])).trans this⟩
  obtain ⟨w, w', el⟩ := el
  have ef : ixop (fm f) (.int 0) h = .ok (nq f.1) h := by simp [fm, ixop, ditems, keyOf, items]
  simp [body, q_ev_v, q_ev_non, q_ev_bl, q_ev_int, q_ev_str, q_ev_con, q_ev_tup, q_ev_lst, q_ev_bin, q_ev_neg, q_ev_not, q_ev_cmp, q_ev_chain, q_ev_and, q_ev_or, q_ev_ifx, q_ev_ix, q_ev_sl, q_ev_call, q_ev_blt, q_ev_isi, q_ev_met, q_ev_tupS, q_ev_lstS, q_ev_rev, q_ev_dnew, q_ev_dzip, q_ev_fnv, q_ev_calv, q_ev_val, q_evs_nil, q_evs_cons, q_evs_star, q_evD_nil, q_evD_cons, q_evAnd_cons, q_evAnd_cons2, q_evOr_cons, q_evOr_cons2, q_evIfs_none, q_evIfs_some, q_evo_none, q_evo_some, q_evi_ex, q_run1_ex, q_run1_set, q_run1_put, q_run1_aug, q_run1_augs, q_run1_ite, q_run1_whl, q_run1_for, q_run1_ret, q_run1_retN, q_run1_rais, q_run1_try, q_run1_brk, q_run1_cnt, q_run1_pas, q_runs_nil, q_runs_cons, q_runH_nil, q_runH_cons, tst, bltop, bindG, bindGs, cmpop, ofB, truthy, int1, int2, ltop, leop, binop, addop, subop, mulop, divop, modop, powop, ixop, items, litems, ditems, mkLst, mkDic, lenop, intop, isiop, tyOf, putop, src, wipeP, metop, metok, isLst, isDic, isStr, isLsq, appop, popL, getD, slop, revop, tupop, lstop, keyOf, inop, Aes.len, peq, scalP, eqF, isNon, isBl, -ixop, f_law_worth, ef, el]
  exact end_rt
/-! what is due -/
def dueT (f : Form) (k : Str) (o : Form) : Tab := (o.2.map fun t => (t.1, val f.2 k * t.2)).foldl addT (outK f.2 k)
def dueF (f : Form) (k : Str) (o : Form) : Form := lain (f.1 + val f.2 k * o.1) (dueT f k o)
theorem outK_nd {ts : List Tm} (nd : (ts.map (·.1)).Nodup) (k : Str) : ((outK ts k).map (·.1)).Nodup := List.Nodup.sublist (List.filter_sublist.map _) nd
theorem fold_nd (ts : List Tm) : ∀ {t : Tab}, (t.map (·.1)).Nodup → ((ts.foldl addT t).map (·.1)).Nodup := by
  induction ts with
  | nil => intro t h; exact h
  | cons p ts ih => intro t h; exact ih (sput_nodup h)
theorem fold_keys {k : Str} (ts : List Tm) : ∀ {t : Tab}, k ∈ (ts.foldl addT t).map (·.1) → k ∈ t.map (·.1) ∨ k ∈ ts.map (·.1) := by
  induction ts with
  | nil => intro t h; exact .inl h
  | cons p ts ih =>
    intro t h
    rcases ih h with q | q
    · rcases addT_keys.mp q with q | q
      · exact .inl q
      · subst q; exact .inr List.mem_cons_self
    · exact .inr (List.mem_cons_of_mem _ q)
theorem fold_len (ts : List Tm) : ∀ {t : Tab}, (ts.foldl addT t).length ≤ t.length + ts.length := by
  induction ts with
  | nil => intro t; simp
  | cons p ts ih =>
    intro t
    have := ih (t := addT t p)
    have h2 := sput_len_le (t := t) (k := p.1) (v := val t p.1 + p.2)
    rw [List.foldl_cons, List.length_cons]
    unfold addT at this ⊢
    omega
theorem tot_smul {ts : List Tm} (q : Rat) (k : Str) : tot (ts.map fun t => (t.1, q * t.2)) k = q * tot ts k := by
  induction ts with
  | nil => show (0 : Rat) = q * 0; grind
  | cons t ts ih =>
    show (if k = t.1 then q * t.2 else 0) + tot _ k = q * ((if k = t.1 then t.2 else 0) + tot ts k)
    rw [ih]; split <;> grind
theorem outK_val {ts : List Tm} (k x : Str) : val (outK ts k) x = if x = k then 0 else val ts x := by
  unfold outK
  rw [val_filter (c := fun y => decide (y ≠ k))]
  by_cases e : x = k
  · simp [e]
  · simp [e]
theorem val_dueT {f o : Form} (vo : VF o) (k x : Str) : val (dueT f k o) x = (if x = k then 0 else val f.2 x) + val f.2 k * val o.2 x := by
  unfold dueT
  rw [val_fold, outK_val, tot_smul, tot_val vo.nd]
theorem dueF_VF {f o : Form} (vf : VF f) (vo : VF o) (k : Str) : VF (dueF f k o) := lain_VF (fold_nd _ (outK_nd vf.nd k)) fun x hx => by
  rcases fold_keys _ hx with q | q
  · obtain ⟨t, ht, rfl⟩ := List.mem_map.mp q
    exact vf.nm t (List.mem_filter.mp ht).1
  · rw [List.map_map] at q
    obtain ⟨t, ht, rfl⟩ := List.mem_map.mp q
    exact vo.nm t ht
theorem putF_VF {f o : Form} (vf : VF f) (vo : VF o) (k : Str) : VF (putF f k o) := formOf_VF fun t ht => by
  rcases List.mem_append.mp ht with q | q
  · exact vf.nm t (List.mem_filter.mp q).1
  · exact (scaleF_VF vo _).nm t q
theorem val_putF {f o : Form} (vf : VF f) (vo : VF o) (k x : Str) : val (putF f k o).2 x = (if x = k then 0 else val f.2 x) + val f.2 k * val o.2 x := by
  rw [putF_eq]
  unfold sumF
  rw [val_formOf, tot_app, tot_val (outK_nd vf.nd k), outK_val, tot_val (scaleF_VF vo _).nd, val_scaleF vo]
  grind
theorem due_put {f o : Form} (vf : VF f) (vo : VF o) (k : Str) : dueF f k o = putF f k o := by
  refine form_ext (dueF_VF vf vo k) (putF_VF vf vo k) ?_ fun x => ?_
  · show f.1 + val f.2 k * o.1 = f.1 + (scaleF o (val f.2 k)).1
    rw [scaleF_fst]; grind
  · unfold dueF
    rw [val_lain, val_dueT vo, val_putF vf vo]
theorem sub_len : ∀ {a b : List Str}, a.Nodup → (∀ x ∈ a, x ∈ b) → a.length ≤ b.length
  | [], _, _, _ => Nat.zero_le _
  | x :: a, b, nd, h => by
    rw [List.nodup_cons] at nd
    have hx := h x List.mem_cons_self
    have h1 := sub_len (b := b.erase x) nd.2 fun y hy => (List.mem_erase_of_ne (show y ≠ x from fun e => nd.1 (e ▸ hy))).mpr (h y (List.mem_cons_of_mem _ hy))
    rw [List.length_erase_of_mem hx] at h1
    have := List.length_pos_of_mem hx
    rw [List.length_cons]
    omega
theorem dueF_SF {ns : List Str} {f o : Form} {a : Nat} (sf : SF a ns f) (so : SF a ns o) (nd : ns.Nodup) (ha : 1 ≤ a) (k : Str) : SF (3 * a + 1) ns (dueF f k o) := by
  have hv : ∀ x, sz (val (dueT f k o) x) ≤ 3 * a + 1 := fun x => by
    rw [val_dueT so.vf]
    have h1 : sz (if x = k then 0 else val f.2 x) ≤ a := by
      split
      · rw [sz_zero]; exact ha
      · exact val_bound sf.bf.t ha x
    have := sz_add (if x = k then 0 else val f.2 x) (val f.2 k * val o.2 x)
    have := sz_mul (val f.2 k) (val o.2 x)
    have := val_bound sf.bf.t ha k
    have := val_bound so.bf.t ha x
    omega
  have hm : ∀ x ∈ (dueF f k o).2.map (·.1), x ∈ ns := fun x hx => by
    rcases fold_keys _ (lain_mem hx) with q | q
    · obtain ⟨t, ht, rfl⟩ := List.mem_map.mp q
      exact sf.mem t (List.mem_filter.mp ht).1
    · rw [List.map_map] at q
      obtain ⟨t, ht, rfl⟩ := List.mem_map.mp q
      exact so.mem t ht
  refine ⟨dueF_VF sf.vf so.vf k, ⟨?_, fun u hu => ?_⟩, fun u hu => hm _ (List.mem_map.mpr ⟨u, hu, rfl⟩), ?_⟩
  · show sz (f.1 + val f.2 k * o.1) ≤ _
    have := sz_add f.1 (val f.2 k * o.1)
    have := sz_mul (val f.2 k) o.1
    have := val_bound sf.bf.t ha k
    have := sf.bf.c
    have := so.bf.c
    omega
  · unfold dueF lain at hu
    obtain ⟨x, hx, rfl⟩ := List.mem_map.mp hu
    exact hv x
  · have h1 := sub_len (dueF_VF sf.vf so.vf k).nd hm
    rw [List.length_map] at h1
    exact h1
end Mx.FA

end

section
set_option linter.all false
set_option maxRecDepth 100000
set_option maxHeartbeats 4000000
set_option exponentiation.threshold 20000
namespace Mx.FA
open PySem PySem.Spec PyProof.Rows L2 Mx

theorem s_ldue {PG : Pg} [Has PG "_law_due" f_law_due] [Has PG "_law_plus" f_law_plus] [Has PG "_law_pair" f_law_pair] [Has PG "_law_gcd" f_law_gcd] [Has PG "_law_times" f_law_times] [Has PG "_law_lain" f_law_lain] {n : Nat} (hn : 5 ≤ n) (h : MH) {ns : List Str} (f o : Form) (k : Str) {a : Nat} (sf : SF a ns f) (so : SF a ns o) (hl : ns.length ≤ 12) (ha : 1 ≤ a) (hb : a ≤ 300) : call PG n "_law_due" [fm f, .str k, fm o] [] [] h = .ok (fm (dueF f k o)) h := by
  rw [call_ge (by omega) rfl]
  have ef : ixop (fm f) (.int 1) h = .ok (.tup (f.2.map tm)) h := by simp [fm, ixop, ditems, keyOf, items]
  have ed : dictop (.tup (f.2.map tm)) h = .ok (.ref h.length) (h ++ [.dic (tb nq f.2)]) := by
    unfold dictop
    simp [ditems, items, src, pairs_tm, dict_tm sf.vf.nd, mkDic]
  have ep : popD (.ref h.length) (.str k) (nq 0) (h ++ [.dic (tb nq f.2)]) = .ok (nq (val f.2 k)) (h ++ [.dic (tb nq (outK f.2 k))]) := by
    unfold popD
    simp only [keyOf, get_app_len]
    have e1 : kget (tb nq f.2) (.inr k) = (sget f.2 k).map nq := kget_tb
    rw [e1]
    cases e : sget f.2 k with
    | some v =>
      have : val f.2 k = v := by unfold val; rw [e]; rfl
      rw [this]
      simp only [Option.map_some, set_app_len, kdrop_tb]
      rfl
    | none =>
      have hk : k ∉ f.2.map (·.1) := fun q => by
        obtain ⟨v, hv⟩ := sget_mem q
        rw [hv] at e; cases e
      have e2 : outK f.2 k = f.2 := List.filter_eq_self.mpr fun t ht => decide_eq_true fun q => hk (q ▸ List.mem_map.mpr ⟨t, ht, rfl⟩)
      have : val f.2 k = 0 := val_not hk
      rw [this, e2]
      rfl
  rw [nq_zero] at ep
  have bv : sz (val f.2 k) ≤ a := val_bound sf.bf.t ha k
  -- the table
  have el : ∃ w w', run1 PG (call PG (n - 1)) l_law_due_1 [some (fm f), some (.str k), some (fm o), some (.ref h.length), some (nq (val f.2 k)), none, none] (h ++ [.dic (tb nq (outK f.2 k))]) = .nx [some (fm f), some (.str k), some (fm o), some (.ref h.length), some (nq (val f.2 k)), w, w'] (h ++ [.dic (tb nq (dueT f k o))]) := by
    have := for_fold (α := Tm) (g := tm) (l := []) (body := turnF PG (call PG (n - 1)) (.tp (.cons (.nm 5) (.cons (.nm 6) .nil))) (.cons (.put (.v 3) (.v 5) (.call "_law_plus" (.cons (.met .get false (.v 3) (.cons (.v 5) (.cons (.tup (.cons (.int 0) (.cons (.int 1) .nil))) .nil))) (.cons (.call "_law_times" (.cons (.v 4) (.cons (.v 6) .nil)) [] .nil) .nil)) [] .nil)) .nil))
      (E := fun (s : Tab × Option PV × Option PV) => [some (fm f), some (.str k), some (fm o), some (.ref h.length), some (nq (val f.2 k)), s.2.1, s.2.2]) (H := fun s => h ++ [.dic (tb nq s.1)]) (st := fun s p => (addT s.1 (p.1, val f.2 k * p.2), some (.str p.1), some (nq p.2))) (fun xs s => (∀ x ∈ xs, sz x.2 ≤ a) ∧ (∀ y, sz (val s.1 y) + xs.length * (2 * a + 1) ≤ 8900) ∧ s.1.length + xs.length ≤ 60) (fun _ => chk_nil) (fun x xs s ⟨j1, j2, j3⟩ => by
        have hz := j1 x List.mem_cons_self
        have hm := sz_mul (val f.2 k) x.2
        have hy := j2 x.1
        simp only [List.length_cons] at hy j3
        rw [Nat.succ_mul] at hy
        have hA := sz_add (val s.1 x.1) (val f.2 k * x.2)
        have e1 := s_ltimes (PG := PG) (n := n - 1) (by omega) (h ++ [.dic (tb nq s.1)]) (val f.2 k) x.2 (by omega)
        have e := s_lplus (PG := PG) (n := n - 1) (by omega) (h ++ [.dic (tb nq s.1)]) (val s.1 x.1) (val f.2 k * x.2) (by omega)
        have eg : (kget (tb nq s.1) (.inr x.1)).getD (.tup [.int 0, .int 1]) = nq (val s.1 x.1) := by
          rw [kget_tb]; unfold val; cases sget s.1 x.1 <;> rfl
        have zl : (tb nq s.1).length < sizeLine := by rw [tb_len, sizeLine_eq]; omega
        refine ⟨by simp [body, q_ev_v, q_ev_non, q_ev_bl, q_ev_int, q_ev_str, q_ev_con, q_ev_tup, q_ev_lst, q_ev_bin, q_ev_neg, q_ev_not, q_ev_cmp, q_ev_chain, q_ev_and, q_ev_or, q_ev_ifx, q_ev_ix, q_ev_sl, q_ev_call, q_ev_blt, q_ev_isi, q_ev_met, q_ev_tupS, q_ev_lstS, q_ev_rev, q_ev_dnew, q_ev_dzip, q_ev_fnv, q_ev_calv, q_ev_val, q_evs_nil, q_evs_cons, q_evs_star, q_evD_nil, q_evD_cons, q_evAnd_cons, q_evAnd_cons2, q_evOr_cons, q_evOr_cons2, q_evIfs_none, q_evIfs_some, q_evo_none, q_evo_some, q_evi_ex, q_run1_ex, q_run1_set, q_run1_put, q_run1_aug, q_run1_augs, q_run1_ite, q_run1_whl, q_run1_for, q_run1_ret, q_run1_retN, q_run1_rais, q_run1_try, q_run1_brk, q_run1_cnt, q_run1_pas, q_runs_nil, q_runs_cons, q_runH_nil, q_runH_cons, tst, bltop, bindG, bindGs, cmpop, ofB, truthy, int1, int2, ltop, leop, binop, addop, subop, mulop, divop, modop, powop, ixop, items, litems, ditems, mkLst, mkDic, lenop, intop, isiop, tyOf, putop, src, wipeP, metop, metok, isLst, isDic, isStr, isLsq, appop, popL, getD, slop, revop, tupop, lstop, keyOf, inop, Aes.len, peq, scalP, eqF, isNon, isBl, turnF, tm, isDic, eg, e1, e, zl, kput_tb, addT], fun y hy => j1 y (List.mem_cons_of_mem _ hy), fun y => ?_, ?_⟩
        · have hy2 := j2 y
          rw [List.length_cons, Nat.succ_mul] at hy2
          show sz (val (addT s.1 (x.1, val f.2 k * x.2)) y) + _ ≤ _
          unfold addT
          rw [val_put]
          split
          · show sz (val s.1 x.1 + val f.2 k * x.2) + _ ≤ _
            omega
          · omega
        · have h2 : (addT s.1 (x.1, val f.2 k * x.2)).length ≤ s.1.length + 1 := sput_len_le
          show (addT s.1 (x.1, val f.2 k * x.2)).length + _ ≤ _
          omega) o.2 (outK f.2 k, none, none) ⟨so.bf.t, fun y => by
            have h1 : sz (val (outK f.2 k) y) ≤ a := by
              rw [outK_val]
              split
              · rw [sz_zero]; exact ha
              · exact val_bound sf.bf.t ha y
            have h2 := Nat.mul_le_mul_right (2 * a + 1) (Nat.le_trans so.len hl)
            show sz (val (outK f.2 k) y) + _ ≤ _
            omega, by
            have h1 : (outK f.2 k).length ≤ f.2.length := List.length_filter_le ..
            have h2 := sf.len
            have h3 := so.len
            show (outK f.2 k).length + _ ≤ _
            omega⟩
    have e2 : ∀ (ts : List Tm) (t : Tab) (w w' : Option PV), (ts.foldl (fun (s : Tab × Option PV × Option PV) p => (addT s.1 (p.1, val f.2 k * p.2), some (.str p.1), some (nq p.2))) (t, w, w')).1 = (ts.map fun t => (t.1, val f.2 k * t.2)).foldl addT t := by
      intro ts
      induction ts with
      | nil => intro t w w'; rfl
      | cons p ts ih => intro t w w'; exact ih _ _ _
    rw [e2] at this
    exact ⟨_, _, (for_run rfl (by simp [body, q_ev_v, q_ev_non, q_ev_bl, q_ev_int, q_ev_str, q_ev_con, q_ev_tup, q_ev_lst, q_ev_bin, q_ev_neg, q_ev_not, q_ev_cmp, q_ev_chain, q_ev_and, q_ev_or, q_ev_ifx, q_ev_ix, q_ev_sl, q_ev_call, q_ev_blt, q_ev_isi, q_ev_met, q_ev_tupS, q_ev_lstS, q_ev_rev, q_ev_dnew, q_ev_dzip, q_ev_fnv, q_ev_calv, q_ev_val, q_evs_nil, q_evs_cons, q_evs_star, q_evD_nil, q_evD_cons, q_evAnd_cons, q_evAnd_cons2, q_evOr_cons, q_evOr_cons2, q_evIfs_none, q_evIfs_some, q_evo_none, q_evo_some, q_evi_ex, q_run1_ex, q_run1_set, q_run1_put, q_run1_aug, q_run1_augs, q_run1_ite, q_run1_whl, q_run1_for, q_run1_ret, q_run1_retN, q_run1_rais, q_run1_try, q_run1_brk, q_run1_cnt, q_run1_pas, q_runs_nil, q_runs_cons, q_runH_nil, q_runH_cons, tst, bltop, bindG, bindGs, cmpop, ofB, truthy, int1, int2, ltop, leop, binop, addop, subop, mulop, divop, modop, powop, ixop, items, litems, ditems, mkLst, mkDic, lenop, intop, isiop, tyOf, putop, src, wipeP, metop, metok, isLst, isDic, isStr, isLsq, appop, popL, getD, slop, revop, tupop, lstop, keyOf, inop, Aes.len, peq, scalP, eqF, isNon, isBl, fm])).trans this⟩
  obtain ⟨w, w', el⟩ := el
  have dl : (dueT f k o).length ≤ 63 := by
    have h0 := fold_len (o.2.map fun t => (t.1, val f.2 k * t.2)) (t := outK f.2 k)
    have h1 : (outK f.2 k).length ≤ f.2.length := List.length_filter_le ..
    have h2 := sf.len
    have h3 := so.len
    rw [List.length_map] at h0
    unfold dueT
    omega
  have hm := sz_mul (val f.2 k) o.1
  have hc := sf.bf.c
  have hc2 := so.bf.c
  have e1 := s_ltimes (PG := PG) (n := n - 1) (by omega) (h ++ [.dic (tb nq (dueT f k o))]) (val f.2 k) o.1 (by omega)
  have e2 := s_lplus (PG := PG) (n := n - 1) (by omega) (h ++ [.dic (tb nq (dueT f k o))]) f.1 (val f.2 k * o.1) (by omega)
  have e3 := s_lain (PG := PG) (n := n - 1) (by omega) (h ++ [.dic (tb nq (dueT f k o))]) (m := h.length) (f.1 + val f.2 k * o.1) (dueT f k o) get_app_len dl
  have ef0 : ixop (fm f) (.int 0) (h ++ [.dic (tb nq (dueT f k o))]) = .ok (nq f.1) (h ++ [.dic (tb nq (dueT f k o))]) := by simp [fm, ixop, ditems, keyOf, items]
  have eo0 : ixop (fm o) (.int 0) (h ++ [.dic (tb nq (dueT f k o))]) = .ok (nq o.1) (h ++ [.dic (tb nq (dueT f k o))]) := by simp [fm, ixop, ditems, keyOf, items]
  simp [body, q_ev_v, q_ev_non, q_ev_bl, q_ev_int, q_ev_str, q_ev_con, q_ev_tup, q_ev_lst, q_ev_bin, q_ev_neg, q_ev_not, q_ev_cmp, q_ev_chain, q_ev_and, q_ev_or, q_ev_ifx, q_ev_ix, q_ev_sl, q_ev_call, q_ev_blt, q_ev_isi, q_ev_met, q_ev_tupS, q_ev_lstS, q_ev_rev, q_ev_dnew, q_ev_dzip, q_ev_fnv, q_ev_calv, q_ev_val, q_evs_nil, q_evs_cons, q_evs_star, q_evD_nil, q_evD_cons, q_evAnd_cons, q_evAnd_cons2, q_evOr_cons, q_evOr_cons2, q_evIfs_none, q_evIfs_some, q_evo_none, q_evo_some, q_evi_ex, q_run1_ex, q_run1_set, q_run1_put, q_run1_aug, q_run1_augs, q_run1_ite, q_run1_whl, q_run1_for, q_run1_ret, q_run1_retN, q_run1_rais, q_run1_try, q_run1_brk, q_run1_cnt, q_run1_pas, q_runs_nil, q_runs_cons, q_runH_nil, q_runH_cons, tst, bltop, bindG, bindGs, cmpop, ofB, truthy, int1, int2, ltop, leop, binop, addop, subop, mulop, divop, modop, powop, ixop, items, litems, ditems, mkLst, mkDic, lenop, intop, isiop, tyOf, putop, src, wipeP, metop, metok, isLst, isDic, isStr, isLsq, appop, popL, getD, slop, revop, tupop, lstop, keyOf, inop, Aes.len, peq, scalP, eqF, isNon, isBl, -ixop, f_law_due, ef, ed, ep, isDic, el, ef0, eo0, e1, e2, e3]
  exact end_rt_app
/-! points -/
theorem s_spot {PG : Pg} {n : Nat} (h : MH) {m : Nat} (hD : Dk h m) (ns : List Str) (hl : ns.length ≤ 1000) {ρ : Env'} {i j s : Nat} (hi : ρ[i]? = some (some (.ref m))) (hj : ∀ q, evi PG (call PG n) (.ex (.v j)) ρ q = .ok ([], ns.map .str) q)
    (hs : ∀ x q, bindG (.nm s) (.str x) (wipeP ρ [s]) q = some (ρ.set s (some (.str x)))) (hi2 : i ≠ s) (hcall : ∀ h, Dk h m → ∃ r h', call PG n "_law_number" [.ref m] [] [] h = .ok (nq r) h' ∧ sz r ≤ 20 ∧ Chg DK m h h') :
    ∃ (rs : List Rat) (h' : MH), ev PG (call PG n) (.comp false (.call "_law_number" (.cons (.v i) .nil) [] .nil) (.nm s) (.ex (.v j)) .none [("key", s)]) ρ h = .ok (.lst (rs.map nq)) h' ∧ rs.length = ns.length ∧ (∀ r ∈ rs, sz r ≤ 20) ∧ Chg DK m h h' := by
  have cr := comp_rel (P := PG) (cl := call PG n) (elt := .call "_law_number" (.cons (.v i) .nil) [] .nil) (gt := .nm s) (it := .ex (.v j)) (ifs := .none) (own := [("key", s)]) (ρ := ρ) (h := h) (h' := h) (l := []) (g := PV.str) (xs := ns)
    (fun xs acc hh => Chg DK m h hh ∧ ∃ rs : List Rat, acc = rs.map nq ∧ (∀ r ∈ rs, sz r ≤ 20) ∧ rs.length + xs.length = ns.length)
    (hj h) ⟨hD.chg, [], rfl, by simp, by simp⟩ (fun _ _ _ _ => chk_nil) (fun ys hh ⟨_, cs, q, _, hk⟩ => by
      subst q; simp only [List.length_nil, Nat.add_zero] at hk; rw [List.length_map]; exact small (by omega) (Nat.le_refl _)) (fun x xs acc hh ⟨c3, cs, q, hz, hk⟩ => by
      obtain ⟨t, h4, e4, t0, c4⟩ := hcall hh c3.dk
      refine ⟨some (nq t), h4, ?_, c3.trans c4, cs ++ [t], by simp [q, addO], ?_, by simp at hk ⊢; omega⟩
      · have e5 : ∀ q, ev PG (call PG n) (.v i) (ρ.set s (some (.str x))) q = .ok (.ref m) q := fun q => by
          have : (ρ.set s (some (.str x)))[i]? = some (some (.ref m)) := by rw [List.getElem?_set_ne (Ne.symm hi2)]; exact hi
          simp [body, q_ev_v, q_ev_non, q_ev_bl, q_ev_int, q_ev_str, q_ev_con, q_ev_tup, q_ev_lst, q_ev_bin, q_ev_neg, q_ev_not, q_ev_cmp, q_ev_chain, q_ev_and, q_ev_or, q_ev_ifx, q_ev_ix, q_ev_sl, q_ev_call, q_ev_blt, q_ev_isi, q_ev_met, q_ev_tupS, q_ev_lstS, q_ev_rev, q_ev_dnew, q_ev_dzip, q_ev_fnv, q_ev_calv, q_ev_val, q_evs_nil, q_evs_cons, q_evs_star, q_evD_nil, q_evD_cons, q_evAnd_cons, q_evAnd_cons2, q_evOr_cons, q_evOr_cons2, q_evIfs_none, q_evIfs_some, q_evo_none, q_evo_some, q_evi_ex, q_run1_ex, q_run1_set, q_run1_put, q_run1_aug, q_run1_augs, q_run1_ite, q_run1_whl, q_run1_for, q_run1_ret, q_run1_retN, q_run1_rais, q_run1_try, q_run1_brk, q_run1_cnt, q_run1_pas, q_runs_nil, q_runs_cons, q_runH_nil, q_runH_cons, tst, bltop, bindG, bindGs, cmpop, ofB, truthy, int1, int2, ltop, leop, binop, addop, subop, mulop, divop, modop, powop, ixop, items, litems, ditems, mkLst, mkDic, lenop, intop, isiop, tyOf, putop, src, wipeP, metop, metok, isLst, isDic, isStr, isLsq, appop, popL, getD, slop, revop, tupop, lstop, keyOf, inop, Aes.len, peq, scalP, eqF, isNon, isBl, this]
        have e6 := hs x hh
        unfold turnC
        rw [show ([("key", s)] : List (Str × Nat)).map (·.2) = [s] from rfl, e6]
        simp [body, q_ev_v, q_ev_non, q_ev_bl, q_ev_int, q_ev_str, q_ev_con, q_ev_tup, q_ev_lst, q_ev_bin, q_ev_neg, q_ev_not, q_ev_cmp, q_ev_chain, q_ev_and, q_ev_or, q_ev_ifx, q_ev_ix, q_ev_sl, q_ev_call, q_ev_blt, q_ev_isi, q_ev_met, q_ev_tupS, q_ev_lstS, q_ev_rev, q_ev_dnew, q_ev_dzip, q_ev_fnv, q_ev_calv, q_ev_val, q_evs_nil, q_evs_cons, q_evs_star, q_evD_nil, q_evD_cons, q_evAnd_cons, q_evAnd_cons2, q_evOr_cons, q_evOr_cons2, q_evIfs_none, q_evIfs_some, q_evo_none, q_evo_some, q_evi_ex, q_run1_ex, q_run1_set, q_run1_put, q_run1_aug, q_run1_augs, q_run1_ite, q_run1_whl, q_run1_for, q_run1_ret, q_run1_retN, q_run1_rais, q_run1_try, q_run1_brk, q_run1_cnt, q_run1_pas, q_runs_nil, q_runs_cons, q_runH_nil, q_runH_cons, tst, bltop, bindG, bindGs, cmpop, ofB, truthy, int1, int2, ltop, leop, binop, addop, subop, mulop, divop, modop, powop, ixop, items, litems, ditems, mkLst, mkDic, lenop, intop, isiop, tyOf, putop, src, wipeP, metop, metok, isLst, isDic, isStr, isLsq, appop, popL, getD, slop, revop, tupop, lstop, keyOf, inop, Aes.len, peq, scalP, eqF, isNon, isBl, -q_ev_v, e5, e4]
      · intro y hy
        rcases List.mem_append.mp hy with hy | hy
        · exact hz y hy
        · rw [List.mem_singleton] at hy; subst hy; exact t0) false
  obtain ⟨ys, h3, ey, c3, cs, rfl, hcs, hk⟩ := cr
  exact ⟨cs, h3, ey, by simpa using hk, hcs, c3⟩
end Mx.FA

end

section
set_option linter.all false
set_option maxRecDepth 100000
set_option maxHeartbeats 4000000
set_option exponentiation.threshold 20000
namespace Mx.FA
open PySem PySem.Spec PyProof.Rows L2 Mx

theorem SF.mono {a b : Nat} {ns : List Str} {f : Form} (s : SF a ns f) (h : a ≤ b) : SF b ns f := ⟨s.vf, s.bf.mono h, s.mem, s.len⟩
theorem zip_mem {ns : List Str} {ps : List Rat} (hl : ns.length = ps.length) {k : Str} : k ∈ (ns.zip ps).map (·.1) ↔ k ∈ ns := by rw [zip_fst hl]
theorem worthF_sz {ns : List Str} {f : Form} {a b : Nat} (sf : SF a ns f) {e : Str → Rat} (he : ∀ t ∈ f.2, sz (e t.1) ≤ b) (hl : ns.length ≤ 8) : sz (worthF f e) ≤ a + 8 * (a + b + 1) + 2 := by
  unfold worthF rsum
  have h1 := sz_fold (rs := f.1 :: f.2.map fun t => t.2 * e t.1) (a := 0)
  have h2 := szs_le (rs := f.2.map fun t => t.2 * e t.1) (k := a + b) (fun r hr => by
    obtain ⟨t, ht, rfl⟩ := List.mem_map.mp hr
    have := sz_mul t.2 (e t.1); have := sf.bf.t t ht; have := he t ht; omega)
  rw [List.length_map] at h2
  have h3 := Nat.mul_le_mul_right (a + b + 1) (Nat.le_trans sf.len hl)
  have h4 := sf.bf.c
  simp only [szs] at h1
  rw [sz_zero] at h1
  omega
theorem s_points_right {PG : Pg} [Has PG "_law_points_right" f_law_points_right] [Has PG "worth" f_worth] [Has PG "is_number" f_is_number] [Has PG "is_integer" f_is_integer] [Has PG "is_pair" f_is_pair] [Has PG "lowest" f_lowest] [Has PG "check_form" f_check_form] [Has PG "is_form" f_is_form] [Has PG "is_ascending" f_is_ascending] [Has PG "is_term" f_is_term] [Has PG "is_name" f_is_name] [Has PG "worth_at" f_worth_at] [Has PG "product" f_product] [Has PG "sum_of_all" f_sum_of_all] [Has PG "sum_of_two" f_sum_of_two] [Has PG "_law_same" f_law_same] [Has PG "_law_number" f_law_number] [Has PG "_law_take" f_law_take] [Has PG "_law_pair" f_law_pair] [Has PG "_law_gcd" f_law_gcd] [Has PG "_law_worth" f_law_worth] [Has PG "_law_plus" f_law_plus] [Has PG "_law_times" f_law_times] [HasC PG "LETTERS" (.str "abcdefghijklmnopqrstuvwxyz")] [HasC PG "MOST_NAME" (.int 8)] [HasC PG "ZERO" (.tup [(.int 0), (.int 1)])] {n : Nat} (hn : 8 ≤ n) (h : MH) {m : Nat} (hD : Dk h m) {ns : List Str} (s : NS ns) (hl : ns.length ≤ 8) (f o : Form) (k : Str) {a : Nat} (sf : SF a ns f) (so : SF a ns o) (ha : 1 ≤ a) (ha2 : a ≤ 61) (hk : k ∈ ns) :
    ∃ h', call PG n "_law_points_right" [.ref m, .tup (ns.map .str), fm f, .str k, fm o, fm (dueF f k o)] [] [] h = .ok (.bl true) h' ∧ Chg DK m h h' := by
  rw [call_ge (by omega) rfl]
  have sd := dueF_SF sf so s.nd ha k
  have el : ∃ ρ' h1 e, run1 PG (call PG (n - 1)) l_law_points_right_2 [some (.ref m), some (.tup (ns.map .str)), some (fm f), some (.str k), some (fm o), some (fm (dueF f k o)), none, none, none, none, none] h = .nx ρ' (h1 ++ e) ∧ Chg DK m h h1 := by
    obtain ⟨ρ', hh, e, h1, ex, w, rfl, rfl, c1, _⟩ := for_rel (α := Nat) (g := fun k : Nat => PV.int (k : Int)) (l := []) (body := turnF PG (call PG (n - 1)) (.nm 6) (.cons (.set (.nm 7) (.blt .tuple false (.cons c_law_points_right_1 .nil))) (.cons (.set (.nm 8) (.dzip (.v 1) (.v 7))) (.cons (.set (.nm 9) (.call "_law_worth" (.cons (.v 4) (.cons (.v 8) .nil)) [] .nil)) (.cons (.put (.v 8) (.v 3) (.v 9)) (.cons (.ite (.not (.call "_law_same" (.cons (.call "worth" (.cons (.v 5) (.cons (.v 1) (.cons (.v 7) .nil))) [] .nil) (.cons (.call "_law_worth" (.cons (.v 2) (.cons (.v 8) .nil)) [] .nil) .nil)) [] .nil)) (.cons (.ret (.bl false)) .nil) .nil) .nil))))))
      (fun xs ρ hh => ∃ h1 ex w, ρ = [some (.ref m), some (.tup (ns.map .str)), some (fm f), some (.str k), some (fm o), some (fm (dueF f k o))] ++ w ∧ hh = h1 ++ ex ∧ Chg DK m h h1 ∧ w.length = 5) (fun _ _ _ _ => chk_nil) (fun x xs ρ hh ⟨h1, ex, w, q1, q2, c1, wl⟩ => by
        subst q1; subst q2
        obtain ⟨w0, w1, w2, w3, w4, rfl⟩ : ∃ w0 w1 w2 w3 w4, w = [w0, w1, w2, w3, w4] := by
          match w, wl with
          | [w0, w1, w2, w3, w4], _ => exact ⟨w0, w1, w2, w3, w4, rfl⟩
        obtain ⟨rs, h2, e2, rl, rz, c2⟩ := s_spot (PG := PG) (n := n - 1) (h1 ++ ex) (c1.dk.app _) ns (by omega) (ρ := [some (.ref m), some (.tup (ns.map .str)), some (fm f), some (.str k), some (fm o), some (fm (dueF f k o)), some (.int x), w1, w2, w3, w4]) (i := 0) (j := 1) (s := 10) rfl (fun q => by simp [body, q_ev_v, q_ev_non, q_ev_bl, q_ev_int, q_ev_str, q_ev_con, q_ev_tup, q_ev_lst, q_ev_bin, q_ev_neg, q_ev_not, q_ev_cmp, q_ev_chain, q_ev_and, q_ev_or, q_ev_ifx, q_ev_ix, q_ev_sl, q_ev_call, q_ev_blt, q_ev_isi, q_ev_met, q_ev_tupS, q_ev_lstS, q_ev_rev, q_ev_dnew, q_ev_dzip, q_ev_fnv, q_ev_calv, q_ev_val, q_evs_nil, q_evs_cons, q_evs_star, q_evD_nil, q_evD_cons, q_evAnd_cons, q_evAnd_cons2, q_evOr_cons, q_evOr_cons2, q_evIfs_none, q_evIfs_some, q_evo_none, q_evo_some, q_evi_ex, q_run1_ex, q_run1_set, q_run1_put, q_run1_aug, q_run1_augs, q_run1_ite, q_run1_whl, q_run1_for, q_run1_ret, q_run1_retN, q_run1_rais, q_run1_try, q_run1_brk, q_run1_cnt, q_run1_pas, q_runs_nil, q_runs_cons, q_runH_nil, q_runH_cons, tst, bltop, bindG, bindGs, cmpop, ofB, truthy, int1, int2, ltop, leop, binop, addop, subop, mulop, divop, modop, powop, ixop, items, litems, ditems, mkLst, mkDic, lenop, intop, isiop, tyOf, putop, src, wipeP, metop, metok, isLst, isDic, isStr, isLsq, appop, popL, getD, slop, revop, tupop, lstop, keyOf, inop, Aes.len, peq, scalP, eqF, isNon, isBl]) (fun x q => by simp [body, q_ev_v, q_ev_non, q_ev_bl, q_ev_int, q_ev_str, q_ev_con, q_ev_tup, q_ev_lst, q_ev_bin, q_ev_neg, q_ev_not, q_ev_cmp, q_ev_chain, q_ev_and, q_ev_or, q_ev_ifx, q_ev_ix, q_ev_sl, q_ev_call, q_ev_blt, q_ev_isi, q_ev_met, q_ev_tupS, q_ev_lstS, q_ev_rev, q_ev_dnew, q_ev_dzip, q_ev_fnv, q_ev_calv, q_ev_val, q_evs_nil, q_evs_cons, q_evs_star, q_evD_nil, q_evD_cons, q_evAnd_cons, q_evAnd_cons2, q_evOr_cons, q_evOr_cons2, q_evIfs_none, q_evIfs_some, q_evo_none, q_evo_some, q_evi_ex, q_run1_ex, q_run1_set, q_run1_put, q_run1_aug, q_run1_augs, q_run1_ite, q_run1_whl, q_run1_for, q_run1_ret, q_run1_retN, q_run1_rais, q_run1_try, q_run1_brk, q_run1_cnt, q_run1_pas, q_runs_nil, q_runs_cons, q_runH_nil, q_runH_cons, tst, bltop, bindG, bindGs, cmpop, ofB, truthy, int1, int2, ltop, leop, binop, addop, subop, mulop, divop, modop, powop, ixop, items, litems, ditems, mkLst, mkDic, lenop, intop, isiop, tyOf, putop, src, wipeP, metop, metok, isLst, isDic, isStr, isLsq, appop, popL, getD, slop, revop, tupop, lstop, keyOf, inop, Aes.len, peq, scalP, eqF, isNon, isBl]) (by decide) (fun h hD => s_number (PG := PG) (n := n - 1) (by omega) h hD)
        obtain ⟨g2, rfl, c2'⟩ := c2.split c1.dk.lt
        have rl' := rl.symm
        have ez := s_dzip (h := g2 ++ ex) s.nd rl'
        have hv : ∀ y, sz (val (ns.zip rs) y) ≤ 20 := fun y => val_bound (fun p hp' => rz p.2 (List.of_mem_zip hp').2) (by decide) y
        have eD : ev PG (call PG (n - 1)) c_law_points_right_1 [some (.ref m), some (.tup (ns.map .str)), some (fm f), some (.str k), some (fm o), some (fm (dueF f k o)), some (.int x), w1, w2, w3, w4] (h1 ++ ex) = .ok (.lst (rs.map nq)) (g2 ++ ex) := e2
        have o8 : o.2.length ≤ 8 := Nat.le_trans so.len hl
        have f8 : f.2.length ≤ 8 := Nat.le_trans sf.len hl
        have e3 := s_lworth (PG := PG) (n := n - 1) (by omega) ((g2 ++ ex) ++ [.dic (tb nq (ns.zip rs))]) o (m := (g2 ++ ex).length) (ns.zip rs) (a + 20) get_app_len (fun u hu => (zip_mem rl').mpr (so.mem u hu)) (fun u hu => by have := so.bf.t u hu; have := hv u.1; omega) (by
          have := Nat.mul_le_mul_right (a + 20 + 1) o8
          have := so.bf.c
          omega)
        have wz := worthF_sz so (e := val (ns.zip rs)) (b := 20) (fun t _ => hv t.1) hl
        generalize hw : worthF o (val (ns.zip rs)) = wo at e3 wz
        have hv2 : ∀ y, val (sput (ns.zip rs) k wo) y = if y = k then wo else val (ns.zip rs) y := fun y => val_put _ _ _ _
        have e4 := s_worth (PG := PG) (n := n - 1) (by omega) ((g2 ++ ex) ++ [.dic (tb nq (sput (ns.zip rs) k wo))]) (dueF f k o) ns rs (3 * a + 1) 20 s.nd rl' sd.vf sd.bf rz (by decide) (by omega) (by have := sd.len; omega) (by omega) sd.mem
        have sz2 : ∀ y, sz (val (sput (ns.zip rs) k wo) y) ≤ a + 8 * (a + 20 + 1) + 2 := fun y => by
          rw [hv2]; split
          · exact wz
          · have := hv y; omega
        have e5 := s_lworth (PG := PG) (n := n - 1) (by omega) ((g2 ++ ex) ++ [.dic (tb nq (sput (ns.zip rs) k wo))]) f (m := (g2 ++ ex).length) (sput (ns.zip rs) k wo) (a + (a + 8 * (a + 20 + 1) + 2)) get_app_len (fun u hu => by
          rw [sput_keys]
          have := (zip_mem rl').mpr (sf.mem u hu)
          split
          · exact this
          · exact List.mem_append_left _ this) (fun u hu => by have := sf.bf.t u hu; have := sz2 u.1; omega) (by
          have := Nat.mul_le_mul_right (a + (a + 8 * (a + 20 + 1) + 2) + 1) f8
          have := sf.bf.c
          omega)
        have e6 : worthF f (val (sput (ns.zip rs) k wo)) = worthF (dueF f k o) (val (ns.zip rs)) := by
          rw [due_put sf.vf so.vf, worthF_put sf.vf, hw]
          congr 1
          funext y
          exact hv2 y
        rw [e6] at e5
        generalize worthF (dueF f k o) (val (ns.zip rs)) = res at e4 e5
        have e7 := s_same (PG := PG) (Da.nq (k := 0) res) (n := n - 1) (by omega) ((g2 ++ ex) ++ [.dic (tb nq (sput (ns.zip rs) k wo))])
        have zl : (tb nq (ns.zip rs)).length < sizeLine := by rw [tb_len, sizeLine_eq, List.length_zip]; omega
        have es : ∀ o, ((g2 ++ ex) ++ [MO.dic (tb nq (ns.zip rs))]).set (g2 ++ ex).length o = (g2 ++ ex) ++ [o] := fun o => set_app_len
        have eg : ((g2 ++ ex) ++ [MO.dic (tb nq (ns.zip rs))])[(g2 ++ ex).length]? = some (MO.dic (tb nq (ns.zip rs))) := get_app_len
        have ei := kput_tb (g := nq) (t := ns.zip rs) (k := k) (v := wo)
        have hg : ∀ (x : MO), ((g2 ++ ex) ++ [x]) = g2 ++ (ex ++ [x]) := fun x => List.append_assoc ..
        refine ⟨[some (.ref m), some (.tup (ns.map .str)), some (fm f), some (.str k), some (fm o), some (fm (dueF f k o)), some (.int x), some (.tup (rs.map nq)), some (.ref (g2 ++ ex).length), some (nq wo), w4], g2 ++ (ex ++ [MO.dic (tb nq (sput (ns.zip rs) k wo))]), .inl ?_, g2, ex ++ [MO.dic (tb nq (sput (ns.zip rs) k wo))], [some (.int x), some (.tup (rs.map nq)), some (.ref (g2 ++ ex).length), some (nq wo), w4], rfl, rfl, c1.trans c2', rfl⟩
        rw [← hg]
        generalize g2 ++ ex = G at *
        simp [body, q_ev_v, q_ev_non, q_ev_bl, q_ev_int, q_ev_str, q_ev_con, q_ev_tup, q_ev_lst, q_ev_bin, q_ev_neg, q_ev_not, q_ev_cmp, q_ev_chain, q_ev_and, q_ev_or, q_ev_ifx, q_ev_ix, q_ev_sl, q_ev_call, q_ev_blt, q_ev_isi, q_ev_met, q_ev_tupS, q_ev_lstS, q_ev_rev, q_ev_dnew, q_ev_dzip, q_ev_fnv, q_ev_calv, q_ev_val, q_evs_nil, q_evs_cons, q_evs_star, q_evD_nil, q_evD_cons, q_evAnd_cons, q_evAnd_cons2, q_evOr_cons, q_evOr_cons2, q_evIfs_none, q_evIfs_some, q_evo_none, q_evo_some, q_evi_ex, q_run1_ex, q_run1_set, q_run1_put, q_run1_aug, q_run1_augs, q_run1_ite, q_run1_whl, q_run1_for, q_run1_ret, q_run1_retN, q_run1_rais, q_run1_try, q_run1_brk, q_run1_cnt, q_run1_pas, q_runs_nil, q_runs_cons, q_runH_nil, q_runH_cons, tst, bltop, bindG, bindGs, cmpop, ofB, truthy, int1, int2, ltop, leop, binop, addop, subop, mulop, divop, modop, powop, ixop, items, litems, ditems, mkLst, mkDic, lenop, intop, isiop, tyOf, putop, src, wipeP, metop, metok, isLst, isDic, isStr, isLsq, appop, popL, getD, slop, revop, tupop, lstop, keyOf, inop, Aes.len, peq, scalP, eqF, isNon, isBl, turnF, eD, ez, e3, eg, es, zl, ei, e4, e5, e7]) (List.range 2) [some (.ref m), some (.tup (ns.map .str)), some (fm f), some (.str k), some (fm o), some (fm (dueF f k o)), none, none, none, none, none] h ⟨h, [], [none, none, none, none, none], rfl, by simp, hD.chg, rfl⟩
    have er := rng1 (P := PG) (cl := call PG (n - 1)) (e := .int 2) (ρ := [some (.ref m), some (.tup (ns.map .str)), some (fm f), some (.str k), some (fm o), some (fm (dueF f k o)), none, none, none, none, none]) (h := h) (h' := h) (n := 2) (by simp [body, q_ev_v, q_ev_non, q_ev_bl, q_ev_int, q_ev_str, q_ev_con, q_ev_tup, q_ev_lst, q_ev_bin, q_ev_neg, q_ev_not, q_ev_cmp, q_ev_chain, q_ev_and, q_ev_or, q_ev_ifx, q_ev_ix, q_ev_sl, q_ev_call, q_ev_blt, q_ev_isi, q_ev_met, q_ev_tupS, q_ev_lstS, q_ev_rev, q_ev_dnew, q_ev_dzip, q_ev_fnv, q_ev_calv, q_ev_val, q_evs_nil, q_evs_cons, q_evs_star, q_evD_nil, q_evD_cons, q_evAnd_cons, q_evAnd_cons2, q_evOr_cons, q_evOr_cons2, q_evIfs_none, q_evIfs_some, q_evo_none, q_evo_some, q_evi_ex, q_run1_ex, q_run1_set, q_run1_put, q_run1_aug, q_run1_augs, q_run1_ite, q_run1_whl, q_run1_for, q_run1_ret, q_run1_retN, q_run1_rais, q_run1_try, q_run1_brk, q_run1_cnt, q_run1_pas, q_runs_nil, q_runs_cons, q_runH_nil, q_runH_cons, tst, bltop, bindG, bindGs, cmpop, ofB, truthy, int1, int2, ltop, leop, binop, addop, subop, mulop, divop, modop, powop, ixop, items, litems, ditems, mkLst, mkDic, lenop, intop, isiop, tyOf, putop, src, wipeP, metop, metok, isLst, isDic, isStr, isLsq, appop, popL, getD, slop, revop, tupop, lstop, keyOf, inop, Aes.len, peq, scalP, eqF, isNon, isBl]) (by omega)
    exact ⟨_, h1, ex, (for_run rfl er).trans e, c1⟩
  obtain ⟨ρ', h1, ex, el, c1⟩ := el
  refine ⟨h1, ?_, c1⟩
  simp [body, q_ev_v, q_ev_non, q_ev_bl, q_ev_int, q_ev_str, q_ev_con, q_ev_tup, q_ev_lst, q_ev_bin, q_ev_neg, q_ev_not, q_ev_cmp, q_ev_chain, q_ev_and, q_ev_or, q_ev_ifx, q_ev_ix, q_ev_sl, q_ev_call, q_ev_blt, q_ev_isi, q_ev_met, q_ev_tupS, q_ev_lstS, q_ev_rev, q_ev_dnew, q_ev_dzip, q_ev_fnv, q_ev_calv, q_ev_val, q_evs_nil, q_evs_cons, q_evs_star, q_evD_nil, q_evD_cons, q_evAnd_cons, q_evAnd_cons2, q_evOr_cons, q_evOr_cons2, q_evIfs_none, q_evIfs_some, q_evo_none, q_evo_some, q_evi_ex, q_run1_ex, q_run1_set, q_run1_put, q_run1_aug, q_run1_augs, q_run1_ite, q_run1_whl, q_run1_for, q_run1_ret, q_run1_retN, q_run1_rais, q_run1_try, q_run1_brk, q_run1_cnt, q_run1_pas, q_runs_nil, q_runs_cons, q_runH_nil, q_runH_cons, tst, bltop, bindG, bindGs, cmpop, ofB, truthy, int1, int2, ltop, leop, binop, addop, subop, mulop, divop, modop, powop, ixop, items, litems, ditems, mkLst, mkDic, lenop, intop, isiop, tyOf, putop, src, wipeP, metop, metok, isLst, isDic, isStr, isLsq, appop, popL, getD, slop, revop, tupop, lstop, keyOf, inop, Aes.len, peq, scalP, eqF, isNon, isBl, f_law_points_right, el]
  exact c1.end_rt DK.below
theorem const_SF {ns : List Str} (r : Rat) (h : sz r ≤ 20) : SF 20 ns (r, []) := ⟨⟨by simp, by simp, rfl⟩, ⟨h, by simp⟩, by simp, by simp⟩
theorem s_once_right {PG : Pg} [Has PG "_law_once_right" f_law_once_right] [Has PG "put_in" f_put_in] [Has PG "check_name" f_check_name] [Has PG "is_name" f_is_name] [Has PG "check_form" f_check_form] [Has PG "is_form" f_is_form] [Has PG "is_pair" f_is_pair] [Has PG "is_ascending" f_is_ascending] [Has PG "is_number" f_is_number] [Has PG "is_integer" f_is_integer] [Has PG "lowest" f_lowest] [Has PG "is_term" f_is_term] [Has PG "sum_form" f_sum_form] [Has PG "sum_of_two" f_sum_of_two] [Has PG "form_of" f_form_of] [Has PG "scaled_form" f_scaled_form] [Has PG "product" f_product] [Has PG "_law_take" f_law_take] [Has PG "_law_same" f_law_same] [Has PG "_law_number" f_law_number] [Has PG "_law_pair" f_law_pair] [Has PG "_law_gcd" f_law_gcd] [Has PG "_law_shape" f_law_shape] [Has PG "_law_lain" f_law_lain] [Has PG "_law_due" f_law_due] [Has PG "_law_plus" f_law_plus] [Has PG "_law_times" f_law_times] [Has PG "_law_points_right" f_law_points_right] [Has PG "worth" f_worth] [Has PG "worth_at" f_worth_at] [Has PG "sum_of_all" f_sum_of_all] [Has PG "_law_worth" f_law_worth] [HasC PG "LETTERS" (.str "abcdefghijklmnopqrstuvwxyz")] [HasC PG "MOST_NAME" (.int 8)] [HasC PG "ZERO" (.tup [(.int 0), (.int 1)])] {n : Nat} (hn : 9 ≤ n) (h : MH) {m : Nat} (hD : Dk h m) {ns : List Str} (s : NS ns) (hl : ns.length ≤ 8) (hne : ns ≠ []) (f : Form) {a : Nat} (sf : SF a ns f) (ha : 20 ≤ a) (ha2 : a ≤ 61) :
    ∃ d h', call PG n "_law_once_right" [.ref m, .tup (ns.map .str), fm f] [] [] h = .ok (fm d) h' ∧ SF (3 * a + 1) ns d ∧ Chg DK m h h' := by
  rw [call_ge (by omega) rfl]
  have hp : 0 < ns.length := List.length_pos_iff.mpr hne
  obtain ⟨t, h1, e1, t0, t1, c1⟩ := s_take (PG := PG) (n := n - 1) (by omega) h (ns.length : Int) hD (by omega) (by omega)
  obtain ⟨i, rfl⟩ := Int.eq_ofNat_of_zero_le t0
  have hi : i < ns.length := by omega
  have hat : atI (ns.map PV.str) (i : Int) = some (.str ns[i]) := by
    rw [atI_nat (by rw [List.length_map]; exact hi)]
    simp
  have hk : ns[i] ∈ ns := List.getElem_mem hi
  generalize ns[i] = k at hat hk
  obtain ⟨g, h2, e2, sg, c2⟩ := s_shape (PG := PG) (n := n - 1) (by omega) h1 c1.dk ns s (by omega)
  obtain ⟨r, h3, e3, sr, c3⟩ := s_number (PG := PG) (n := n - 1) (by omega) h2 c2.dk
  obtain ⟨w, h4, e4, w0, w1, c4⟩ := s_take (PG := PG) (n := n - 1) (by omega) h3 3 c3.dk (by decide) (by decide)
  have c14 := ((c1.trans c2).trans c3).trans c4
  obtain ⟨o, so, eo⟩ : ∃ o, SF a ns o ∧ atI [fm g, fm f, .tup [nq r, .tup []]] w = some (fm o) := by
    have : w = 0 ∨ w = 1 ∨ w = 2 := by omega
    rcases this with rfl | rfl | rfl
    · exact ⟨g, sg.mono ha, rfl⟩
    · exact ⟨f, sf, rfl⟩
    · exact ⟨(r, []), (const_SF r sr).mono ha, rfl⟩
  have e5 := s_ldue (PG := PG) (n := n - 1) (by omega) h4 f o k sf so (by omega) (by omega) (by omega)
  have e6 := s_put_in (PG := PG) (n := n - 1) (by omega) h4 f o k (s.nm k hk) sf.vf so.vf (sf.bf.mono (by omega)) (so.bf.mono (by omega)) (by have := sf.len; omega) (by have := so.len; omega)
  have e7 : call PG (n - 1) "put_in" [] ["other", "name", "form"] [fm o, .str k, fm f] h4 = call PG (n - 1) "put_in" [fm f, .str k, fm o] [] [] h4 := kw_ge rfl rfl
  obtain ⟨h5, e8, c5⟩ := s_points_right (PG := PG) (n := n - 1) (by omega) h4 c4.dk s hl f o k sf so (by omega) ha2 hk
  have sd := dueF_SF sf so s.nd (by omega) k
  rw [← due_put sf.vf so.vf] at e6
  rw [e6] at e7
  have e9 := s_same (PG := PG) (k := 5) (x := .lst [fm (dueF f k o), fm (dueF f k o)]) (.lst (fun x hx => by
    have : x = fm (dueF f k o) := by simpa using hx
    subst this
    exact Da.fm (k := 0) _ (by have := sd.len; omega)) (by simp)) (n := n - 1) (by omega) h4
  refine ⟨dueF f k o, h5, ?_, sd, c14.trans c5⟩
  generalize dueF f k o = d at *
  simp [body, q_ev_v, q_ev_non, q_ev_bl, q_ev_int, q_ev_str, q_ev_con, q_ev_tup, q_ev_lst, q_ev_bin, q_ev_neg, q_ev_not, q_ev_cmp, q_ev_chain, q_ev_and, q_ev_or, q_ev_ifx, q_ev_ix, q_ev_sl, q_ev_call, q_ev_blt, q_ev_isi, q_ev_met, q_ev_tupS, q_ev_lstS, q_ev_rev, q_ev_dnew, q_ev_dzip, q_ev_fnv, q_ev_calv, q_ev_val, q_evs_nil, q_evs_cons, q_evs_star, q_evD_nil, q_evD_cons, q_evAnd_cons, q_evAnd_cons2, q_evOr_cons, q_evOr_cons2, q_evIfs_none, q_evIfs_some, q_evo_none, q_evo_some, q_evi_ex, q_run1_ex, q_run1_set, q_run1_put, q_run1_aug, q_run1_augs, q_run1_ite, q_run1_whl, q_run1_for, q_run1_ret, q_run1_retN, q_run1_rais, q_run1_try, q_run1_brk, q_run1_cnt, q_run1_pas, q_runs_nil, q_runs_cons, q_runH_nil, q_runH_cons, tst, bltop, bindG, bindGs, cmpop, ofB, truthy, int1, int2, ltop, leop, binop, addop, subop, mulop, divop, modop, powop, ixop, items, litems, ditems, mkLst, mkDic, lenop, intop, isiop, tyOf, putop, src, wipeP, metop, metok, isLst, isDic, isStr, isLsq, appop, popL, getD, slop, revop, tupop, lstop, keyOf, inop, Aes.len, peq, scalP, eqF, isNon, isBl, f_law_once_right, e1, hat, e2, e3, e4, eo, e5, e6, e7, e9, e8]
  exact (c14.trans c5).end_rt0
theorem fm_nn (f : Form) : isNon (fm f) = false := rfl
theorem law_plain {PG : Pg} [Has PG "law" f_law_v2] [Has PG "put_in" f_put_in] [Has PG "check_name" f_check_name] [Has PG "is_name" f_is_name] [Has PG "check_form" f_check_form] [Has PG "is_form" f_is_form] [Has PG "is_pair" f_is_pair] [Has PG "is_ascending" f_is_ascending] [Has PG "is_number" f_is_number] [Has PG "is_integer" f_is_integer] [Has PG "lowest" f_lowest] [Has PG "is_term" f_is_term] [Has PG "sum_form" f_sum_form] [Has PG "sum_of_two" f_sum_of_two] [Has PG "form_of" f_form_of] [Has PG "scaled_form" f_scaled_form] [Has PG "product" f_product] [Has PG "_law_deck" f_law_deck] [Has PG "_law_same" f_law_same] [Has PG "_law_labels" f_law_labels] [Has PG "_law_take" f_law_take] [Has PG "_law_label" f_law_label] [Has PG "_law_shape" f_law_shape] [Has PG "_law_number" f_law_number] [Has PG "_law_pair" f_law_pair] [Has PG "_law_gcd" f_law_gcd] [Has PG "_law_lain" f_law_lain] [Has PG "_law_once_right" f_law_once_right] [Has PG "_law_due" f_law_due] [Has PG "_law_plus" f_law_plus] [Has PG "_law_times" f_law_times] [Has PG "_law_points_right" f_law_points_right] [Has PG "worth" f_worth] [Has PG "worth_at" f_worth_at] [Has PG "sum_of_all" f_sum_of_all] [Has PG "_law_worth" f_law_worth] [HasC PG "LETTERS" (.str "abcdefghijklmnopqrstuvwxyz")] [HasC PG "MOST_NAME" (.int 8)] [HasC PG "ZERO" (.tup [(.int 0), (.int 1)])] {n : Nat} (hn : 10 ≤ n) (ns : List Int) (hl : ns.length ≤ 63) : ∃ h', body PG (call PG n) f_law_v2 [.lst (ns.map .int)] [] = .ok (.bl true) h' := by
  have hm : ∃ m : Nat, m < 64 ∧ ev PG (call PG n) (.blt .max false (.cons (.int 2) (.cons (.blt .min false (.cons (.blt .len false (.cons (.v 0) .nil)) (.cons (.int 16) .nil))) .nil))) [some (.lst (ns.map .int)), none, none, none, none, none] [] = .ok (.int (m : Int)) [] := by
    by_cases h1 : 16 < ns.length
    · refine ⟨16, by decide, ?_⟩
      have h1' : (16 : Int) < (ns.length : Int) := by omega
      simp [body, q_ev_v, q_ev_non, q_ev_bl, q_ev_int, q_ev_str, q_ev_con, q_ev_tup, q_ev_lst, q_ev_bin, q_ev_neg, q_ev_not, q_ev_cmp, q_ev_chain, q_ev_and, q_ev_or, q_ev_ifx, q_ev_ix, q_ev_sl, q_ev_call, q_ev_blt, q_ev_isi, q_ev_met, q_ev_tupS, q_ev_lstS, q_ev_rev, q_ev_dnew, q_ev_dzip, q_ev_fnv, q_ev_calv, q_ev_val, q_evs_nil, q_evs_cons, q_evs_star, q_evD_nil, q_evD_cons, q_evAnd_cons, q_evAnd_cons2, q_evOr_cons, q_evOr_cons2, q_evIfs_none, q_evIfs_some, q_evo_none, q_evo_some, q_evi_ex, q_run1_ex, q_run1_set, q_run1_put, q_run1_aug, q_run1_augs, q_run1_ite, q_run1_whl, q_run1_for, q_run1_ret, q_run1_retN, q_run1_rais, q_run1_try, q_run1_brk, q_run1_cnt, q_run1_pas, q_runs_nil, q_runs_cons, q_runH_nil, q_runH_cons, tst, bltop, bindG, bindGs, cmpop, ofB, truthy, int1, int2, ltop, leop, binop, addop, subop, mulop, divop, modop, powop, ixop, items, litems, ditems, mkLst, mkDic, lenop, intop, isiop, tyOf, putop, src, wipeP, metop, metok, isLst, isDic, isStr, isLsq, appop, popL, getD, slop, revop, tupop, lstop, keyOf, inop, Aes.len, peq, scalP, eqF, isNon, isBl, h1, h1']
    · by_cases h2 : ns.length > 2
      · refine ⟨ns.length, by omega, ?_⟩
        have h1' : ¬ (16 : Int) < (ns.length : Int) := by omega
        have h2' : (2 : Int) < (ns.length : Int) := by omega
        simp [body, q_ev_v, q_ev_non, q_ev_bl, q_ev_int, q_ev_str, q_ev_con, q_ev_tup, q_ev_lst, q_ev_bin, q_ev_neg, q_ev_not, q_ev_cmp, q_ev_chain, q_ev_and, q_ev_or, q_ev_ifx, q_ev_ix, q_ev_sl, q_ev_call, q_ev_blt, q_ev_isi, q_ev_met, q_ev_tupS, q_ev_lstS, q_ev_rev, q_ev_dnew, q_ev_dzip, q_ev_fnv, q_ev_calv, q_ev_val, q_evs_nil, q_evs_cons, q_evs_star, q_evD_nil, q_evD_cons, q_evAnd_cons, q_evAnd_cons2, q_evOr_cons, q_evOr_cons2, q_evIfs_none, q_evIfs_some, q_evo_none, q_evo_some, q_evi_ex, q_run1_ex, q_run1_set, q_run1_put, q_run1_aug, q_run1_augs, q_run1_ite, q_run1_whl, q_run1_for, q_run1_ret, q_run1_retN, q_run1_rais, q_run1_try, q_run1_brk, q_run1_cnt, q_run1_pas, q_runs_nil, q_runs_cons, q_runH_nil, q_runH_cons, tst, bltop, bindG, bindGs, cmpop, ofB, truthy, int1, int2, ltop, leop, binop, addop, subop, mulop, divop, modop, powop, ixop, items, litems, ditems, mkLst, mkDic, lenop, intop, isiop, tyOf, putop, src, wipeP, metop, metok, isLst, isDic, isStr, isLsq, appop, popL, getD, slop, revop, tupop, lstop, keyOf, inop, Aes.len, peq, scalP, eqF, isNon, isBl, h1, h2, h1', h2']
      · refine ⟨2, by decide, ?_⟩
        have h1' : ¬ (16 : Int) < (ns.length : Int) := by omega
        have h2' : ¬ (2 : Int) < (ns.length : Int) := by omega
        simp [body, q_ev_v, q_ev_non, q_ev_bl, q_ev_int, q_ev_str, q_ev_con, q_ev_tup, q_ev_lst, q_ev_bin, q_ev_neg, q_ev_not, q_ev_cmp, q_ev_chain, q_ev_and, q_ev_or, q_ev_ifx, q_ev_ix, q_ev_sl, q_ev_call, q_ev_blt, q_ev_isi, q_ev_met, q_ev_tupS, q_ev_lstS, q_ev_rev, q_ev_dnew, q_ev_dzip, q_ev_fnv, q_ev_calv, q_ev_val, q_evs_nil, q_evs_cons, q_evs_star, q_evD_nil, q_evD_cons, q_evAnd_cons, q_evAnd_cons2, q_evOr_cons, q_evOr_cons2, q_evIfs_none, q_evIfs_some, q_evo_none, q_evo_some, q_evi_ex, q_run1_ex, q_run1_set, q_run1_put, q_run1_aug, q_run1_augs, q_run1_ite, q_run1_whl, q_run1_for, q_run1_ret, q_run1_retN, q_run1_rais, q_run1_try, q_run1_brk, q_run1_cnt, q_run1_pas, q_runs_nil, q_runs_cons, q_runH_nil, q_runH_cons, tst, bltop, bindG, bindGs, cmpop, ofB, truthy, int1, int2, ltop, leop, binop, addop, subop, mulop, divop, modop, powop, ixop, items, litems, ditems, mkLst, mkDic, lenop, intop, isiop, tyOf, putop, src, wipeP, metop, metok, isLst, isDic, isStr, isLsq, appop, popL, getD, slop, revop, tupop, lstop, keyOf, inop, Aes.len, peq, scalP, eqF, isNon, isBl, h1, h2, h1', h2']
  obtain ⟨m, m1, m2⟩ := hm
  have er := rng1 m2 (by omega)
  rw [Int.toNat_natCast] at er
  obtain ⟨ρ', hh, e, _, w, rfl, wl⟩ := for_rel (α := Nat) (g := fun k : Nat => PV.int (k : Int)) (l := []) (body := turnF PG (call PG n) (.nm 1) (.cons (.set (.nm 2) (.call "_law_deck" (.cons (.v 0) (.cons (.v 1) .nil)) [] .nil)) (.cons (.set (.nm 3) (.call "_law_labels" (.cons (.v 2) (.cons (.int 8) .nil)) [] .nil)) (.cons (.set (.nm 4) (.call "_law_shape" (.cons (.v 2) (.cons (.v 3) .nil)) [] .nil)) (.cons (.set (.nm 5) (.call "_law_once_right" (.cons (.v 2) (.cons (.v 3) (.cons (.v 4) .nil))) [] .nil)) (.cons (.ite (.or (.cons (.cmp .isN (.v 5) .non) (.cons (.cmp .isN (.call "_law_once_right" (.cons (.v 2) (.cons (.v 3) (.cons (.v 5) .nil))) [] .nil) .non) .nil))) (.cons (.ret (.bl false)) .nil) .nil) (.cons (.ite (.and (.cons (.cmp .nin (.str "zzzzzzzz") (.v 3)) (.cons (.not (.call "_law_same" (.cons (.call "put_in" (.cons (.v 4) (.cons (.str "zzzzzzzz") (.cons (.v 5) .nil))) [] .nil) (.cons (.v 4) .nil)) [] .nil)) .nil))) (.cons (.ret (.bl false)) .nil) .nil) .nil)))))))
    (fun xs ρ hh => (∀ x ∈ xs, x < 64) ∧ ∃ w, ρ = some (.lst (ns.map .int)) :: w ∧ w.length = 5) (fun _ _ _ _ => chk_nil) (fun x xs ρ hh ⟨hx, w, q1, wl⟩ => by
      subst q1
      obtain ⟨w0, w1, w2, w3, w4, rfl⟩ : ∃ w0 w1 w2 w3 w4, w = [w0, w1, w2, w3, w4] := by
        match w, wl with
        | [w0, w1, w2, w3, w4], _ => exact ⟨w0, w1, w2, w3, w4, rfl⟩
      obtain ⟨h1, e1, d1⟩ := s_deck (PG := PG) (n := n) (by omega) x hh ns (hx x List.mem_cons_self)
      obtain ⟨ls, h2, e2, s, sne, sl, c2⟩ := s_labels (PG := PG) (n := n) (by omega) h1 d1 8 (by decide) (by decide)
      obtain ⟨f, h3, e3, sf, c3⟩ := s_shape (PG := PG) (n := n) (by omega) h2 c2.dk ls s (by omega)
      obtain ⟨d, h4, e4, sd, c4⟩ := s_once_right (PG := PG) (n := n) (by omega) h3 c3.dk s (by omega) sne f sf (by decide) (by decide)
      obtain ⟨d2, h5, e5, sd2, c5⟩ := s_once_right (PG := PG) (n := n) (by omega) h4 c4.dk s (by omega) sne d sd (by decide) (by decide)
      have hZ : isNm "zzzzzzzz" = true := by decide +kernel
      have e6 := s_put_in (PG := PG) (n := n) (by omega) h5 f d "zzzzzzzz" hZ sf.vf sd.vf (sf.bf.mono (by omega)) (sd.bf.mono (by omega)) (by have := sf.len; omega) (by have := sd.len; omega)
      have e7 := s_same (PG := PG) (Da.fm (k := 0) f (by have := sf.len; omega)) (n := n) (by omega) h5
      have ez := inSeq_strs h5 "zzzzzzzz" ls
      refine ⟨[some (.lst (ns.map .int)), some (.int x), some (.ref hh.length), some (.tup (ls.map .str)), some (fm f), some (fm d)], h5, .inl ?_, fun y hy => hx y (List.mem_cons_of_mem _ hy), _, rfl, rfl⟩
      by_cases hin : ("zzzzzzzz" : Str) ∈ ls
      · rw [decide_eq_true hin] at ez
        simp [body, q_ev_v, q_ev_non, q_ev_bl, q_ev_int, q_ev_str, q_ev_con, q_ev_tup, q_ev_lst, q_ev_bin, q_ev_neg, q_ev_not, q_ev_cmp, q_ev_chain, q_ev_and, q_ev_or, q_ev_ifx, q_ev_ix, q_ev_sl, q_ev_call, q_ev_blt, q_ev_isi, q_ev_met, q_ev_tupS, q_ev_lstS, q_ev_rev, q_ev_dnew, q_ev_dzip, q_ev_fnv, q_ev_calv, q_ev_val, q_evs_nil, q_evs_cons, q_evs_star, q_evD_nil, q_evD_cons, q_evAnd_cons, q_evAnd_cons2, q_evOr_cons, q_evOr_cons2, q_evIfs_none, q_evIfs_some, q_evo_none, q_evo_some, q_evi_ex, q_run1_ex, q_run1_set, q_run1_put, q_run1_aug, q_run1_augs, q_run1_ite, q_run1_whl, q_run1_for, q_run1_ret, q_run1_retN, q_run1_rais, q_run1_try, q_run1_brk, q_run1_cnt, q_run1_pas, q_runs_nil, q_runs_cons, q_runH_nil, q_runH_cons, tst, bltop, bindG, bindGs, cmpop, ofB, truthy, int1, int2, ltop, leop, binop, addop, subop, mulop, divop, modop, powop, ixop, items, litems, ditems, mkLst, mkDic, lenop, intop, isiop, tyOf, putop, src, wipeP, metop, metok, isLst, isDic, isStr, isLsq, appop, popL, getD, slop, revop, tupop, lstop, keyOf, inop, Aes.len, peq, scalP, eqF, isNon, isBl, -isNon, turnF, e1, e2, e3, e4, e5, fm_nn, ez]
      · rw [decide_eq_false hin] at ez
        have hv : val f.2 "zzzzzzzz" = 0 := val_not fun q => by
          obtain ⟨t, ht, e⟩ := List.mem_map.mp q
          exact hin (e ▸ sf.mem t ht)
        have e8 : putF f "zzzzzzzz" d = f := form_ext (putF_VF sf.vf sd.vf _) sf.vf (by
          show f.1 + d.1 * val f.2 "zzzzzzzz" = f.1
          rw [hv]; grind) fun y => by
          rw [val_putF sf.vf sd.vf, hv]
          by_cases e : y = "zzzzzzzz"
          · subst e; rw [if_pos rfl, hv]; grind
          · rw [if_neg e]; grind
        rw [e8] at e6
        simp [body, q_ev_v, q_ev_non, q_ev_bl, q_ev_int, q_ev_str, q_ev_con, q_ev_tup, q_ev_lst, q_ev_bin, q_ev_neg, q_ev_not, q_ev_cmp, q_ev_chain, q_ev_and, q_ev_or, q_ev_ifx, q_ev_ix, q_ev_sl, q_ev_call, q_ev_blt, q_ev_isi, q_ev_met, q_ev_tupS, q_ev_lstS, q_ev_rev, q_ev_dnew, q_ev_dzip, q_ev_fnv, q_ev_calv, q_ev_val, q_evs_nil, q_evs_cons, q_evs_star, q_evD_nil, q_evD_cons, q_evAnd_cons, q_evAnd_cons2, q_evOr_cons, q_evOr_cons2, q_evIfs_none, q_evIfs_some, q_evo_none, q_evo_some, q_evi_ex, q_run1_ex, q_run1_set, q_run1_put, q_run1_aug, q_run1_augs, q_run1_ite, q_run1_whl, q_run1_for, q_run1_ret, q_run1_retN, q_run1_rais, q_run1_try, q_run1_brk, q_run1_cnt, q_run1_pas, q_runs_nil, q_runs_cons, q_runH_nil, q_runH_cons, tst, bltop, bindG, bindGs, cmpop, ofB, truthy, int1, int2, ltop, leop, binop, addop, subop, mulop, divop, modop, powop, ixop, items, litems, ditems, mkLst, mkDic, lenop, intop, isiop, tyOf, putop, src, wipeP, metop, metok, isLst, isDic, isStr, isLsq, appop, popL, getD, slop, revop, tupop, lstop, keyOf, inop, Aes.len, peq, scalP, eqF, isNon, isBl, -isNon, turnF, e1, e2, e3, e4, e5, fm_nn, ez, e6, e7]) (List.range m) [some (.lst (ns.map .int)), none, none, none, none, none] [] ⟨fun x hx => by have := List.mem_range.mp hx; omega, _, rfl, rfl⟩
  have el : run1 PG (call PG n) l_law_1_v2 [some (.lst (ns.map .int)), none, none, none, none, none] [] = _ := (for_run rfl er).trans e
  refine ⟨(leave [] (.bl true) hh).2, ?_⟩
  simp [body, q_ev_v, q_ev_non, q_ev_bl, q_ev_int, q_ev_str, q_ev_con, q_ev_tup, q_ev_lst, q_ev_bin, q_ev_neg, q_ev_not, q_ev_cmp, q_ev_chain, q_ev_and, q_ev_or, q_ev_ifx, q_ev_ix, q_ev_sl, q_ev_call, q_ev_blt, q_ev_isi, q_ev_met, q_ev_tupS, q_ev_lstS, q_ev_rev, q_ev_dnew, q_ev_dzip, q_ev_fnv, q_ev_calv, q_ev_val, q_evs_nil, q_evs_cons, q_evs_star, q_evD_nil, q_evD_cons, q_evAnd_cons, q_evAnd_cons2, q_evOr_cons, q_evOr_cons2, q_evIfs_none, q_evIfs_some, q_evo_none, q_evo_some, q_evi_ex, q_run1_ex, q_run1_set, q_run1_put, q_run1_aug, q_run1_augs, q_run1_ite, q_run1_whl, q_run1_for, q_run1_ret, q_run1_retN, q_run1_rais, q_run1_try, q_run1_brk, q_run1_cnt, q_run1_pas, q_runs_nil, q_runs_cons, q_runH_nil, q_runH_cons, tst, bltop, bindG, bindGs, cmpop, ofB, truthy, int1, int2, ltop, leop, binop, addop, subop, mulop, divop, modop, powop, ixop, items, litems, ditems, mkLst, mkDic, lenop, intop, isiop, tyOf, putop, src, wipeP, metop, metok, isLst, isDic, isStr, isLsq, appop, popL, getD, slop, revop, tupop, lstop, keyOf, inop, Aes.len, peq, scalP, eqF, isNon, isBl, f_law_v2, el]
  show Res.ok (leave [] (.bl true) hh).1 _ = _
  rw [leave_dt (by simp) (fun n o hn => by simp at hn)]
end Mx.FA

end

section
set_option Elab.async false
set_option linter.all false
set_option maxRecDepth 100000
set_option maxHeartbeats 0
namespace Mx.K03
open PySem PySem.Spec PyProof.Rows L2 Mx
def top (i : Nat) : Stmt := PySem.Challenge.pw_rankedwishes_k03_whole_put_in.main.body.getD i (.Pass ⟨0, 0, 0, 0⟩)
def cons : List (Str × PV) := [(("LETTERS" : Str), (.str "abcdefghijklmnopqrstuvwxyz")), (("MOST_NAME" : Str), (.int 8)), (("ZERO" : Str), (.tup [(.int 0), (.int 1)]))]
def e_is_integer : Ent := ⟨"is_integer", Mx.FA.f_is_integer, ["value"], ⟨("is_integer", none), "is_integer", "is_integer", defArgs (top 7), defBody (top 7), defScope (top 7), [], []⟩⟩
def e_is_pair : Ent := ⟨"is_pair", Mx.FA.f_is_pair, ["value"], ⟨("is_pair", none), "is_pair", "is_pair", defArgs (top 8), defBody (top 8), defScope (top 8), [], []⟩⟩
def e_is_ascending : Ent := ⟨"is_ascending", Mx.FA.f_is_ascending, ["row", "k"], ⟨("is_ascending", none), "is_ascending", "is_ascending", defArgs (top 9), defBody (top 9), defScope (top 9), [], []⟩⟩
def e_lowest : Ent := ⟨"lowest", Mx.FA.f_lowest, ["top", "bottom", "common"], ⟨("lowest", none), "lowest", "lowest", defArgs (top 10), defBody (top 10), defScope (top 10), [], []⟩⟩
def e_sum_of_two : Ent := ⟨"sum_of_two", Mx.FA.f_sum_of_two, ["a", "b"], ⟨("sum_of_two", none), "sum_of_two", "sum_of_two", defArgs (top 11), defBody (top 11), defScope (top 11), [], []⟩⟩
def e_product : Ent := ⟨"product", Mx.FA.f_product, ["a", "b"], ⟨("product", none), "product", "product", defArgs (top 12), defBody (top 12), defScope (top 12), [], []⟩⟩
def e_sum_of_all : Ent := ⟨"sum_of_all", Mx.FA.f_sum_of_all, ["row", "total", "a"], ⟨("sum_of_all", none), "sum_of_all", "sum_of_all", defArgs (top 13), defBody (top 13), defScope (top 13), [], []⟩⟩
def e_is_number : Ent := ⟨"is_number", Mx.FA.f_is_number, ["told"], ⟨("is_number", none), "is_number", "is_number", defArgs (top 16), defBody (top 16), defScope (top 16), [], []⟩⟩
def e_is_name : Ent := ⟨"is_name", Mx.FA.f_is_name, ["told", "sign"], ⟨("is_name", none), "is_name", "is_name", defArgs (top 20), defBody (top 20), defScope (top 20), [], []⟩⟩
def e_is_term : Ent := ⟨"is_term", Mx.FA.f_is_term, ["told"], ⟨("is_term", none), "is_term", "is_term", defArgs (top 21), defBody (top 21), defScope (top 21), [], []⟩⟩
def e_is_form : Ent := ⟨"is_form", Mx.FA.f_is_form, ["told", "term", "name", "number"], ⟨("is_form", none), "is_form", "is_form", defArgs (top 22), defBody (top 22), defScope (top 22), [], []⟩⟩
def e_check_name : Ent := ⟨"check_name", Mx.FA.f_check_name, ["name"], ⟨("check_name", none), "check_name", "check_name", defArgs (top 23), defBody (top 23), defScope (top 23), [], []⟩⟩
def e_check_form : Ent := ⟨"check_form", Mx.FA.f_check_form, ["form"], ⟨("check_form", none), "check_form", "check_form", defArgs (top 24), defBody (top 24), defScope (top 24), [], []⟩⟩
def e_form_of : Ent := ⟨"form_of", Mx.FA.f_form_of, ["constant", "terms", "table", "name", "number"], ⟨("form_of", none), "form_of", "form_of", defArgs (top 25), defBody (top 25), defScope (top 25), [], []⟩⟩
def e_sum_form : Ent := ⟨"sum_form", Mx.FA.f_sum_form, ["one", "other"], ⟨("sum_form", none), "sum_form", "sum_form", defArgs (top 26), defBody (top 26), defScope (top 26), [], []⟩⟩
def e_scaled_form : Ent := ⟨"scaled_form", Mx.FA.f_scaled_form, ["form", "number", "name", "own"], ⟨("scaled_form", none), "scaled_form", "scaled_form", defArgs (top 27), defBody (top 27), defScope (top 27), [], []⟩⟩
def e_worth_at : Ent := ⟨"worth_at", Mx.FA.f_worth_at, ["form", "table", "name", "number"], ⟨("worth_at", none), "worth_at", "worth_at", defArgs (top 28), defBody (top 28), defScope (top 28), [], []⟩⟩
def e_worth : Ent := ⟨"worth", Mx.FA.f_worth, ["form", "names", "point", "a", "name", "number"], ⟨("worth", none), "worth", "worth", defArgs (top 29), defBody (top 29), defScope (top 29), [], []⟩⟩
def e_put_in : Ent := ⟨"put_in", Mx.FA.f_put_in, ["form", "name", "other", "own", "rest", "term"], ⟨("put_in", none), "put_in", "put_in", defArgs (top 30), defBody (top 30), defScope (top 30), [], []⟩⟩
def e_law_deck : Ent := ⟨"_law_deck", Mx.FA.f_law_deck, ["script", "k", "cell", "stir"], ⟨("_law_deck", none), "_law_deck", "_law_deck", defArgs (top 32), defBody (top 32), defScope (top 32), [], []⟩⟩
def e_law_take : Ent := ⟨"_law_take", Mx.FA.f_law_take, ["deck", "many", "taken"], ⟨("_law_take", none), "_law_take", "_law_take", defArgs (top 33), defBody (top 33), defScope (top 33), [], []⟩⟩
def e_law_gcd : Ent := ⟨"_law_gcd", Mx.FA.f_law_gcd, ["m", "n"], ⟨("_law_gcd", none), "_law_gcd", "_law_gcd", defArgs (top 34), defBody (top 34), defScope (top 34), [], []⟩⟩
def e_law_pair : Ent := ⟨"_law_pair", Mx.FA.f_law_pair, ["upper", "lower", "common"], ⟨("_law_pair", none), "_law_pair", "_law_pair", defArgs (top 35), defBody (top 35), defScope (top 35), [], []⟩⟩
def e_law_plus : Ent := ⟨"_law_plus", Mx.FA.f_law_plus, ["m", "n"], ⟨("_law_plus", none), "_law_plus", "_law_plus", defArgs (top 36), defBody (top 36), defScope (top 36), [], []⟩⟩
def e_law_times : Ent := ⟨"_law_times", Mx.FA.f_law_times, ["m", "n"], ⟨("_law_times", none), "_law_times", "_law_times", defArgs (top 37), defBody (top 37), defScope (top 37), [], []⟩⟩
def e_law_same : Ent := ⟨"_law_same", Mx.FA.f_law_same, ["found", "due", "k"], ⟨("_law_same", none), "_law_same", "_law_same", defArgs (top 39), defBody (top 39), defScope (top 39), [], []⟩⟩
def e_law_number : Ent := ⟨"_law_number", Mx.FA.f_law_number, ["deck", "way"], ⟨("_law_number", none), "_law_number", "_law_number", defArgs (top 40), defBody (top 40), defScope (top 40), [], []⟩⟩
def e_law_label : Ent := ⟨"_law_label", Mx.FA.f_law_label, ["deck", "letters", "many", "k"], ⟨("_law_label", none), "_law_label", "_law_label", defArgs (top 41), defBody (top 41), defScope (top 41), [], []⟩⟩
def e_law_labels : Ent := ⟨"_law_labels", Mx.FA.f_law_labels, ["deck", "most", "found", "k"], ⟨("_law_labels", none), "_law_labels", "_law_labels", defArgs (top 42), defBody (top 42), defScope (top 42), [], []⟩⟩
def e_law_lain : Ent := ⟨"_law_lain", Mx.FA.f_law_lain, ["base", "table", "label"], ⟨("_law_lain", none), "_law_lain", "_law_lain", defArgs (top 43), defBody (top 43), defScope (top 43), [], []⟩⟩
def e_law_shape : Ent := ⟨"_law_shape", Mx.FA.f_law_shape, ["deck", "labels", "table", "share", "label"], ⟨("_law_shape", none), "_law_shape", "_law_shape", defArgs (top 44), defBody (top 44), defScope (top 44), [], []⟩⟩
def e_law_worth : Ent := ⟨"_law_worth", Mx.FA.f_law_worth, ["shape", "table", "total", "label", "amount"], ⟨("_law_worth", none), "_law_worth", "_law_worth", defArgs (top 45), defBody (top 45), defScope (top 45), [], []⟩⟩
def e_law_due : Ent := ⟨"_law_due", Mx.FA.f_law_due, ["shape", "label", "second", "table", "own", "key", "amount"], ⟨("_law_due", none), "_law_due", "_law_due", defArgs (top 46), defBody (top 46), defScope (top 46), [], []⟩⟩
def e_law_points_right : Ent := ⟨"_law_points_right", Mx.FA.f_law_points_right, ["deck", "labels", "shape", "label", "second", "found", "turn", "spot", "table", "inner", "key"], ⟨("_law_points_right", none), "_law_points_right", "_law_points_right", defArgs (top 47), defBody (top 47), defScope (top 47), [], []⟩⟩
def e_law_once_right : Ent := ⟨"_law_once_right", Mx.FA.f_law_once_right, ["deck", "labels", "shape", "label", "second", "due"], ⟨("_law_once_right", none), "_law_once_right", "_law_once_right", defArgs (top 48), defBody (top 48), defScope (top 48), [], []⟩⟩
def e_law : Ent := ⟨"law", Mx.FA.f_law_v2, ["script", "k", "deck", "labels", "first", "second"], ⟨("law", none), "law", "law", defArgs (top 49), defBody (top 49), defScope (top 49), [], []⟩⟩
def ents : List Ent := [e_is_integer, e_is_pair, e_is_ascending, e_lowest, e_sum_of_two, e_product, e_sum_of_all, e_is_number, e_is_name, e_is_term, e_is_form, e_check_name, e_check_form, e_form_of, e_sum_form, e_scaled_form, e_worth_at, e_worth, e_put_in, e_law_deck, e_law_take, e_law_gcd, e_law_pair, e_law_plus, e_law_times, e_law_same, e_law_number, e_law_label, e_law_labels, e_law_lain, e_law_shape, e_law_worth, e_law_due, e_law_points_right, e_law_once_right, e_law]
def PG : Pg := mkPg ents cons [("InvalidName" : Str), ("InvalidForm" : Str), ("InvalidPoint" : Str)]
def LK : Lk := ⟨[("abs" : Str), ("all" : Str), ("bool" : Str), ("dict" : Str), ("int" : Str), ("isinstance" : Str), ("len" : Str), ("list" : Str), ("max" : Str), ("min" : Str), ("range" : Str), ("sorted" : Str), ("str" : Str), ("tuple" : Str), ("zip" : Str)], true, cons.map (·.1), [("InvalidName" : Str), ("InvalidForm" : Str), ("InvalidPoint" : Str)], ents.map (·.f), false⟩
instance : Has PG "is_integer" Mx.FA.f_is_integer := ⟨by rfl⟩
instance : Has PG "is_pair" Mx.FA.f_is_pair := ⟨by rfl⟩
instance : Has PG "is_ascending" Mx.FA.f_is_ascending := ⟨by rfl⟩
instance : Has PG "lowest" Mx.FA.f_lowest := ⟨by rfl⟩
instance : Has PG "sum_of_two" Mx.FA.f_sum_of_two := ⟨by rfl⟩
instance : Has PG "product" Mx.FA.f_product := ⟨by rfl⟩
instance : Has PG "sum_of_all" Mx.FA.f_sum_of_all := ⟨by rfl⟩
instance : Has PG "is_number" Mx.FA.f_is_number := ⟨by rfl⟩
instance : Has PG "is_name" Mx.FA.f_is_name := ⟨by rfl⟩
instance : Has PG "is_term" Mx.FA.f_is_term := ⟨by rfl⟩
instance : Has PG "is_form" Mx.FA.f_is_form := ⟨by rfl⟩
instance : Has PG "check_name" Mx.FA.f_check_name := ⟨by rfl⟩
instance : Has PG "check_form" Mx.FA.f_check_form := ⟨by rfl⟩
instance : Has PG "form_of" Mx.FA.f_form_of := ⟨by rfl⟩
instance : Has PG "sum_form" Mx.FA.f_sum_form := ⟨by rfl⟩
instance : Has PG "scaled_form" Mx.FA.f_scaled_form := ⟨by rfl⟩
instance : Has PG "worth_at" Mx.FA.f_worth_at := ⟨by rfl⟩
instance : Has PG "worth" Mx.FA.f_worth := ⟨by rfl⟩
instance : Has PG "put_in" Mx.FA.f_put_in := ⟨by rfl⟩
instance : Has PG "_law_deck" Mx.FA.f_law_deck := ⟨by rfl⟩
instance : Has PG "_law_take" Mx.FA.f_law_take := ⟨by rfl⟩
instance : Has PG "_law_gcd" Mx.FA.f_law_gcd := ⟨by rfl⟩
instance : Has PG "_law_pair" Mx.FA.f_law_pair := ⟨by rfl⟩
instance : Has PG "_law_plus" Mx.FA.f_law_plus := ⟨by rfl⟩
instance : Has PG "_law_times" Mx.FA.f_law_times := ⟨by rfl⟩
instance : Has PG "_law_same" Mx.FA.f_law_same := ⟨by rfl⟩
instance : Has PG "_law_number" Mx.FA.f_law_number := ⟨by rfl⟩
instance : Has PG "_law_label" Mx.FA.f_law_label := ⟨by rfl⟩
instance : Has PG "_law_labels" Mx.FA.f_law_labels := ⟨by rfl⟩
instance : Has PG "_law_lain" Mx.FA.f_law_lain := ⟨by rfl⟩
instance : Has PG "_law_shape" Mx.FA.f_law_shape := ⟨by rfl⟩
instance : Has PG "_law_worth" Mx.FA.f_law_worth := ⟨by rfl⟩
instance : Has PG "_law_due" Mx.FA.f_law_due := ⟨by rfl⟩
instance : Has PG "_law_points_right" Mx.FA.f_law_points_right := ⟨by rfl⟩
instance : Has PG "_law_once_right" Mx.FA.f_law_once_right := ⟨by rfl⟩
instance : Has PG "law" Mx.FA.f_law_v2 := ⟨by rfl⟩
instance : HasC PG "LETTERS" (.str "abcdefghijklmnopqrstuvwxyz") := ⟨by rfl⟩
instance : HasC PG "MOST_NAME" (.int 8) := ⟨by rfl⟩
instance : HasC PG "ZERO" (.tup [(.int 0), (.int 1)]) := ⟨by rfl⟩
instance : HasE PG [("InvalidName" : Str), ("InvalidForm" : Str), ("InvalidPoint" : Str)] := ⟨by rfl⟩
theorem st_ok : ents.all (stOk LK) = true := by decide +kernel
end Mx.K03

end

section
set_option Elab.async false
set_option linter.all false
set_option maxRecDepth 100000
set_option maxHeartbeats 0
namespace Mx.K03
open PySem PySem.Spec PyProof.Rows L2 Mx
def dI : He.DefD := match top 2 with
  | .ClassDef _ _ _ (st :: _) _ _ _ _ _ _ _ => ⟨("WishError", some "__init__"), "__init__", "WishError.__init__", defArgs st, defBody st, defScope st, [], []⟩
  | _ => ⟨("", none), "", "", ⟨[], [], none, [], [], none, []⟩, [], ⟨.function, [], false, false, []⟩, [], []⟩
def loose : List Str := ([("__name__" : Str), ("WishError" : Str), ("InvalidName" : Str), ("InvalidForm" : Str), ("InvalidPoint" : Str), ("is_integer" : Str), ("is_pair" : Str), ("is_ascending" : Str), ("lowest" : Str), ("sum_of_two" : Str), ("product" : Str), ("sum_of_all" : Str), ("ZERO" : Str), ("is_number" : Str), ("LETTERS" : Str), ("MOST_NAME" : Str), ("is_name" : Str), ("is_term" : Str), ("is_form" : Str), ("check_name" : Str), ("check_form" : Str), ("form_of" : Str), ("sum_form" : Str), ("scaled_form" : Str), ("worth_at" : Str), ("worth" : Str), ("put_in" : Str), ("_law_deck" : Str), ("_law_take" : Str), ("_law_gcd" : Str), ("_law_pair" : Str), ("_law_plus" : Str), ("_law_times" : Str), ("_law_less" : Str), ("_law_same" : Str)] : List Str) ++ ([("_law_number" : Str), ("_law_label" : Str), ("_law_labels" : Str), ("_law_lain" : Str), ("_law_shape" : Str), ("_law_worth" : Str), ("_law_due" : Str), ("_law_points_right" : Str), ("_law_once_right" : Str)] : List Str)
abbrev Rw : PySem.W.OpenRow := PySem.W.OpenLaw.row PySem.Challenge.rw_rankedwishes_k03_whole_put_in
abbrev hk : PySem.W.Hook := hookM 5 (chkK LK PG.exc cons) (fnsOf ents PG dI)
def ob (s : PySem.W.SharedT) : AlM := obsMG 5 (chkK LK PG.exc cons) (fnsOf ents PG dI) (HandSHeadRun.getT s)
theorem ob_eq (s : PySem.W.SharedT) : ob s = hk.obs s.abs := obsMG_eq (HandSHeadRun.getT_eq s)
theorem run (w : World) : HandSHeadRun.RunEqI Rw (PySem.W.view Rw.prog [0, 49]) hk ob 20000 loose w := by
  unfold HandSHeadRun.RunEqI
  kernel_rfl
theorem txt : Txt LK PG ents cons dI := txt_of rfl rfl rfl st_ok fun _ => ⟨rfl, rfl, rfl, rfl, rfl, rfl, rfl, rfl, ⟨rfl, rfl, rfl, by decide +kernel, rfl, by decide +kernel, by decide +kernel⟩, rfl, rfl, rfl, _, _, _, _, _, _, _, _, _, _, rfl, fun _ => ⟨_, rfl⟩⟩
end Mx.K03

end

set_option Elab.async false
set_option linter.all false
set_option maxRecDepth 100000
set_option maxHeartbeats 0
open PySem PySem.W PySem.Calls PyProof.Rows
theorem PySem.Challenge.cw_rankedwishes_k03_whole_put_in_holds : PySem.Challenge.rw_rankedwishes_k03_whole_put_in.Holds := by
  w_on; o_law
  refine HandSHeadRun.head_imp (r := OpenLaw.row PySem.Challenge.rw_rankedwishes_k03_whole_put_in) (q := view (OpenLaw.row PySem.Challenge.rw_rankedwishes_k03_whole_put_in).prog [0, 49]) (H := Mx.K03.hk) (ob := Mx.K03.ob) (M := 20000) (loose := Mx.K03.loose) (d := HandSHeadRun.topDef (OpenLaw.row PySem.Challenge.rw_rankedwishes_k03_whole_put_in).prog 49) (kwd := []) Mx.K03.ob_eq
    Mx.K03.run (by kernel_rfl) (by kernel_rfl) (by kernel_rfl) (by rfl) (by first | assumption | decide +kernel) (by decide +kernel) ⟨rfl, rfl, rfl, rfl, rfl, by decide +kernel⟩ ?hw ?hc
  case hw => w_witness2
  case hc =>
    exact Mx.law_end (l := PySem.Challenge.rw_rankedwishes_k03_whole_put_in) Mx.K03.txt (e := Mx.K03.e_law) (by simp [Mx.K03.ents]) rfl (by kernel_rfl) (by kernel_rfl) (by decide +kernel) rfl 60 ⟨rfl, by decide, by decide⟩ fun ns hl => Mx.FA.law_plain (PG := Mx.K03.PG) (n := 60) (by decide) ns hl
