import PyProof.Rows.All
import Wide.All
import OpenK.AllK
import Wide.FinOn
import HandS.ForMost
import HandS.ForExc
import HandS.Defaults
import HandS.Wide
import HandS.Gcd
import HandS.Flow
import HandS.Deep
import HandS.ExcInit
import HandS.TryMany
import HandS.IsInst
import HandS.TupAny
import HandS.Iter
import HandS.ExcOwn
import HandS.ExcField
import HandS.HeadHook2
import HandS.HeadEnd
import HandS.Head3
import HandS.Words
import PySem.Challenge.RW_rankedwishes_k01_whole_numbers
set_option Elab.async false
set_option linter.all false
set_option maxRecDepth 100000
set_option maxHeartbeats 2000000
/-! Values by data, a small heap of what is changed, and how they stand for the abstract heap. -/
namespace Mx
open PySem PySem.Spec PyProof.Rows L2

/-- a value: what never changes by its data, what changes by its number -/
inductive PV where
  | non | bl (b : Bool) | int (i : Int) | str (x : Str)
  | tup (xs : List PV) | lst (xs : List PV)
  | dic (ks vs : List PV)
  | ref (n : Nat)
  | exn (c : Str) (v : PV)

/-- what changes -/
inductive MO where
  | lst (xs : List PV)
  | dic (ks vs : List PV)
  | ins (c : Str) (fs : List (Str × PV))

abbrev MH := List MO

/-- what runs hand on -/
inductive Res (α : Type) where
  | ok (a : α) (h : MH)
  | exn (c : Str) (v : PV) (h : MH)
  | stuck

/-! ### keys -/
/-- the key that a value is -/
def keyOf : PV → Option Key
  | .int i => some (.inl i)
  | .str x => some (.inr x)
  | _ => none

/-! ### how a value stands for one of the layer's -/
/-- the written part, the module's names -/
structure Wr where
  K : PySem.W.Frag
  mg : Str → Option Value
/-- an exception held as a value: its class, its own dict -/
def ExV (C dd a : Addr) : HO := .ext fun h => ∃ (oe : Obj) (vs : Array Value), h.get? a = some oe ∧ oe.cls = .ref C ∧ oe.dict = some dd ∧ oe.data = .fields vs
mutual
inductive RV (K : Wr) (G : Hp) (ι : List Addr) : PV → V → Prop
  | non : RV K G ι .non .non
  | bl (b : Bool) : RV K G ι (.bl b) (.bl b)
  | int (i : Int) : RV K G ι (.int i) (.int i)
  | str (x : Str) : RV K G ι (.str x) (.str x)
  | tup {a : Addr} {xs : List PV} {vs : List V} : SqT K.K G a vs → RVs K G ι xs vs → RV K G ι (.tup xs) (.ref a)
  | lst {a : Addr} {xs : List PV} {vs : List V} : Rd G a (.lst vs) → RVs K G ι xs vs → RV K G ι (.lst xs) (.ref a)
  | dic {a : Addr} {ks xs : List PV} {kvs : List (Key × V)} : Rd G a (.dK kvs) → ks.map keyOf = kvs.map (fun p => some p.1) → RVs K G ι xs (kvs.map (·.2)) → RV K G ι (.dic ks xs) (.ref a)
  | ref {n : Nat} {a : Addr} : ι[n]? = some a → RV K G ι (.ref n) (.ref a)
  | exn {a C dd : Addr} {c : Str} {x : PV} {v : V} : K.mg c = some (.ref C) → G a = some (ExV C dd a) → G dd = some (.xd [(("value" : Str), v)]) → RV K G ι x v → RV K G ι (.exn c x) (.ref a)
inductive RVs (K : Wr) (G : Hp) (ι : List Addr) : List PV → List V → Prop
  | nil : RVs K G ι [] []
  | cons {x : PV} {v : V} {xs : List PV} {vs : List V} : RV K G ι x v → RVs K G ι xs vs → RVs K G ι (x :: xs) (v :: vs)
end

theorem Same.seqT {K : PySem.W.Frag} {H H' : Hp} {a : Addr} {xs : List V} (e : Same H H') (h : SqT K H a xs) : SqT K H' a xs := by
  rcases h with (h | ⟨o, h⟩) | h
  · exact .inl (.inl (e _ _ h))
  · exact .inl (.inr ⟨o, e _ _ h⟩)
  · exact .inr h

/-- the numbers of before stand for the same -/
def Pre (ι ι' : List Addr) : Prop := ∀ (n : Nat) (a : Addr), ι[n]? = some a → ι'[n]? = some a
theorem Pre.refl (ι : List Addr) : Pre ι ι := fun _ _ h => h
theorem Pre.trans {a b c : List Addr} (h : Pre a b) (h' : Pre b c) : Pre a c := fun n x e => h' n x (h n x e)
theorem Pre.append (ι l : List Addr) : Pre ι (ι ++ l) := fun n a h => by
  have hn : n < ι.length := (List.getElem?_eq_some_iff.mp h).1
  rw [List.getElem?_append_left hn]; exact h

section
variable {K : Wr} {G G' : Hp} {ι ι' : List Addr}
mutual
theorem RV.mono (hs : Same G G') (hp : Pre ι ι') : ∀ {x : PV} {v : V}, RV K G ι x v → RV K G' ι' x v
  | _, _, .non => .non
  | _, _, .bl b => .bl b
  | _, _, .int i => .int i
  | _, _, .str x => .str x
  | _, _, .tup h r => .tup (Same.seqT hs h) (RVs.mono hs hp r)
  | _, _, .lst h r => .lst (h.elim (fun q => .inl (hs _ _ q)) fun ⟨o, q⟩ => .inr ⟨o, hs _ _ q⟩) (RVs.mono hs hp r)
  | _, _, .dic h e r => .dic (h.elim (fun q => .inl (hs _ _ q)) fun ⟨o, q⟩ => .inr ⟨o, hs _ _ q⟩) e (RVs.mono hs hp r)
  | _, _, .ref h => .ref (hp _ _ h)
  | _, _, .exn e h1 h2 r => .exn e (hs _ _ h1) (hs _ _ h2) (RV.mono hs hp r)
theorem RVs.mono (hs : Same G G') (hp : Pre ι ι') : ∀ {xs : List PV} {vs : List V}, RVs K G ι xs vs → RVs K G' ι' xs vs
  | _, _, .nil => .nil
  | _, _, .cons r t => .cons (RV.mono hs hp r) (RVs.mono hs hp t)
end
theorem RVs.length : ∀ {xs : List PV} {vs : List V}, RVs K G ι xs vs → xs.length = vs.length
  | _, _, .nil => rfl
  | _, _, .cons _ t => congrArg (· + 1) (RVs.length t)
theorem RVs.get : ∀ {xs : List PV} {vs : List V} {i : Nat} {x : PV}, RVs K G ι xs vs → xs[i]? = some x → ∃ v, vs[i]? = some v ∧ RV K G ι x v
  | _, _, _, _, .nil, e => by simp at e
  | _, _, 0, _, .cons r _, e => by simp at e; subst e; exact ⟨_, rfl, r⟩
  | _, _, i + 1, x, .cons _ t, e => by
    obtain ⟨v, h1, h2⟩ := RVs.get (i := i) (x := x) t (by simpa using e)
    exact ⟨v, by simpa using h1, h2⟩
theorem RVs.get' : ∀ {xs : List PV} {vs : List V} {i : Nat} {v : V}, RVs K G ι xs vs → vs[i]? = some v → ∃ x, xs[i]? = some x ∧ RV K G ι x v
  | _, _, _, _, .nil, e => by simp at e
  | _, _, 0, _, .cons r _, e => by simp at e; subst e; exact ⟨_, rfl, r⟩
  | _, _, i + 1, x, .cons _ t, e => by
    obtain ⟨v, h1, h2⟩ := RVs.get' (i := i) (v := x) t (by simpa using e)
    exact ⟨v, by simpa using h1, h2⟩
theorem RVs.append : ∀ {xs ys : List PV} {vs ws : List V}, RVs K G ι xs vs → RVs K G ι ys ws → RVs K G ι (xs ++ ys) (vs ++ ws)
  | _, _, _, _, .nil, s => s
  | _, _, _, _, .cons r t, s => .cons r (RVs.append t s)
theorem RVs.take : ∀ {xs : List PV} {vs : List V} (n : Nat), RVs K G ι xs vs → RVs K G ι (xs.take n) (vs.take n)
  | _, _, 0, _ => .nil
  | _, _, _ + 1, .nil => .nil
  | _, _, n + 1, .cons r t => .cons r (RVs.take n t)
theorem RVs.drop : ∀ {xs : List PV} {vs : List V} (n : Nat), RVs K G ι xs vs → RVs K G ι (xs.drop n) (vs.drop n)
  | _, _, 0, r => r
  | _, _, _ + 1, .nil => .nil
  | _, _, n + 1, .cons _ t => RVs.drop n t
theorem RVs.set {x : PV} {v : V} (r : RV K G ι x v) : ∀ {xs : List PV} {vs : List V} (i : Nat), RVs K G ι xs vs → RVs K G ι (xs.set i x) (vs.set i v)
  | _, _, _, .nil => .nil
  | _, _, 0, .cons _ t => .cons r t
  | _, _, i + 1, .cons q t => .cons q (RVs.set r i t)
theorem RVs.reverse : ∀ {xs : List PV} {vs : List V}, RVs K G ι xs vs → RVs K G ι xs.reverse vs.reverse
  | _, _, .nil => .nil
  | _, _, .cons r t => by
    rw [List.reverse_cons, List.reverse_cons]
    exact (RVs.reverse t).append (.cons r .nil)
theorem RVs.eraseIdx : ∀ {xs : List PV} {vs : List V} (i : Nat), RVs K G ι xs vs → RVs K G ι (xs.eraseIdx i) (vs.eraseIdx i)
  | _, _, _, .nil => .nil
  | _, _, 0, .cons _ t => t
  | _, _, i + 1, .cons r t => .cons r (RVs.eraseIdx i t)
theorem RVs.rep {xs : List PV} {vs : List V} (h : RVs K G ι xs vs) : ∀ k : Nat, RVs K G ι (List.replicate k xs).flatten (List.replicate k vs).flatten
  | 0 => .nil
  | k + 1 => by
    rw [List.replicate_succ, List.replicate_succ, List.flatten_cons, List.flatten_cons]
    exact h.append (RVs.rep h k)
/-- a value's shape tells that of the layer's -/
theorem RV.int_inv {i : Int} {v : V} (r : RV K G ι (.int i) v) : v = .int i := by cases r; rfl
theorem RV.bl_inv {b : Bool} {v : V} (r : RV K G ι (.bl b) v) : v = .bl b := by cases r; rfl
theorem RV.str_inv {x : Str} {v : V} (r : RV K G ι (.str x) v) : v = .str x := by cases r; rfl
theorem RV.non_inv {v : V} (r : RV K G ι .non v) : v = .non := by cases r; rfl
theorem RV.tup_inv {xs : List PV} {v : V} (r : RV K G ι (.tup xs) v) : ∃ a vs, v = .ref a ∧ SqT K.K G a vs ∧ RVs K G ι xs vs := by
  cases r with
  | tup h t => exact ⟨_, _, rfl, h, t⟩
theorem RV.lst_inv {xs : List PV} {v : V} (r : RV K G ι (.lst xs) v) : ∃ a vs, v = .ref a ∧ Rd G a (.lst vs) ∧ RVs K G ι xs vs := by
  cases r with
  | lst h t => exact ⟨_, _, rfl, h, t⟩
theorem RV.ref_inv {n : Nat} {v : V} (r : RV K G ι (.ref n) v) : ∃ a, v = .ref a ∧ ι[n]? = some a := by
  cases r with
  | ref h => exact ⟨_, rfl, h⟩
theorem RVs.nil_inv {vs : List V} (r : RVs K G ι [] vs) : vs = [] := by cases r; rfl
theorem RVs.cons_inv {x : PV} {xs : List PV} {vs : List V} (r : RVs K G ι (x :: xs) vs) : ∃ v ws, vs = v :: ws ∧ RV K G ι x v ∧ RVs K G ι xs ws := by
  cases r with
  | cons h t => exact ⟨_, _, rfl, h, t⟩
end

/-- the attributes -/
def RF (K : Wr) (G : Hp) (ι : List Addr) (fs : List (Str × PV)) (gs : List (Str × V)) : Prop :=
  ∀ f, match fs.lookup f, gs.lookup f with
    | some x, some v => RV K G ι x v
    | none, none => True
    | _, _ => False

/-- what changes, as it stands in the layer's heap -/
inductive RO (K : Wr) (G : Hp) (ι : List Addr) : MO → Option HO → Prop
  | lst {xs : List PV} {vs : List V} : RVs K G ι xs vs → RO K G ι (.lst xs) (some (.lst vs))
  | dic {ks xs : List PV} {kvs : List (Key × V)} : ks.map keyOf = kvs.map (fun p => some p.1) → RVs K G ι xs (kvs.map (·.2)) → RO K G ι (.dic ks xs) (some (.dK kvs))
  | ins {c : Str} {fs : List (Str × PV)} {C dx : Addr} {gs : List (Str × V)} : K.mg c = some (.ref C) → (fs.map (·.1)).Nodup → RF K G ι fs gs → RO K G ι (.ins c fs) (some (.ins C dx gs))

theorem RF.mono {K : Wr} {G G' : Hp} {ι ι' : List Addr} {fs : List (Str × PV)} {gs : List (Str × V)} (hs : Same G G') (hp : Pre ι ι') (h : RF K G ι fs gs) : RF K G' ι' fs gs := fun f => by
  have q := h f
  cases e1 : fs.lookup f with
  | none => cases e2 : gs.lookup f with
    | none => trivial
    | some v => rw [e1, e2] at q; exact q.elim
  | some x => cases e2 : gs.lookup f with
    | none => rw [e1, e2] at q; exact q.elim
    | some v => rw [e1, e2] at q; exact RV.mono hs hp q
theorem RO.mono {K : Wr} {G G' : Hp} {ι ι' : List Addr} {o : MO} {u : Option HO} (hs : Same G G') (hp : Pre ι ι') (h : RO K G ι o u) : RO K G' ι' o u := by
  cases h with
  | lst r => exact .lst (r.mono hs hp)
  | dic e r => exact .dic e (r.mono hs hp)
  | ins e nd r => exact .ins e nd (r.mono hs hp)

/-- the whole: Z what is being made, G what no longer changes, ι where the changing things stand -/
structure HR (K : Wr) (Z : List Addr) (G : Hp) (ι : List Addr) (h : MH) (H : Hp) : Prop where
  sub : Same G H
  len : ι.length = h.length
  nd : ι.Nodup
  out : ∀ a ∈ ι, G a = none
  obj : ∀ (n : Nat) (a : Addr) (o : MO), ι[n]? = some a → h[n]? = some o → RO K G ι o (H a)
  zz : ∀ z ∈ Z, G z = none ∧ z ∉ ι ∧ ∃ u, H z = some u

/-- the slots -/
def SR (K : Wr) (G : Hp) (ι : List Addr) (ρ : List (Option PV)) (σ : L2.St) : Prop :=
  ρ.length = σ.length ∧ ∀ (i : Nat) (x : PV), ρ[i]? = some (some x) → ∃ v, σ[i]? = some (some v) ∧ RV K G ι x v
theorem SR.mono {K : Wr} {G G' : Hp} {ι ι' : List Addr} {ρ : List (Option PV)} {σ : L2.St} (hs : Same G G') (hp : Pre ι ι') (h : SR K G ι ρ σ) : SR K G' ι' ρ σ :=
  ⟨h.1, fun i x e => let ⟨v, e1, r⟩ := h.2 i x e; ⟨v, e1, r.mono hs hp⟩⟩

section
variable {K : Wr} {Z : List Addr} {G : Hp} {ι : List Addr} {h : MH} {H : Hp}
theorem same_upd {G : Hp} {p : Addr} {o : HO} (e : G p = none) : Same G (upd G p o) := fun b u q => by
  rw [upd_ne (ne_of_none q e)]; exact q
theorem HR.gnone (R : HR K Z G ι h H) {p : Addr} (hp : H p = none) : G p = none := R.sub.free hp
theorem RO.some {o : MO} {u : Option HO} (r : RO K G ι o u) : ∃ w, u = some w := by
  cases r with
  | lst _ => exact ⟨_, rfl⟩
  | dic _ _ => exact ⟨_, rfl⟩
  | ins _ _ _ => exact ⟨_, rfl⟩
theorem HR.at (R : HR K Z G ι h H) {n : Nat} {a : Addr} (e : ι[n]? = some a) : ∃ o, h[n]? = some o ∧ RO K G ι o (H a) := by
  have hn : n < ι.length := (List.getElem?_eq_some_iff.mp e).1
  have hn' : n < h.length := by rw [← R.len]; exact hn
  exact ⟨h[n], List.getElem?_eq_getElem hn', R.obj n a _ e (List.getElem?_eq_getElem hn')⟩
theorem HR.there (R : HR K Z G ι h H) {a : Addr} (ha : a ∈ ι) : ∃ u, H a = some u := by
  obtain ⟨n, hn, e⟩ := List.mem_iff_getElem.mp ha
  obtain ⟨o, _, r⟩ := R.at (n := n) (a := a) (by rw [List.getElem?_eq_getElem hn, e])
  exact r.some
theorem HR.fresh (R : HR K Z G ι h H) {p : Addr} (hp : H p = none) : p ∉ ι := fun q => by
  obtain ⟨u, e⟩ := R.there q
  rw [hp] at e; cases e
theorem HR.freshZ (R : HR K Z G ι h H) {p : Addr} (hp : H p = none) : p ∉ Z := fun q => by
  obtain ⟨_, _, u, e⟩ := R.zz p q
  rw [hp] at e; cases e
/-- a new thing that no longer changes -/
theorem HR.laid {p : Addr} {o : HO} (R : HR K Z G ι h H) (hp : H p = none) : HR K Z (upd G p o) ι h (upd H p o) := by
  have gp := R.gnone hp
  have np := R.fresh hp
  refine ⟨fun b u q => ?_, R.len, R.nd, fun a ha => ?_, fun n a ob e1 e2 => ?_, fun z hz => ?_⟩
  · by_cases hb : b = p
    · subst hb; rw [upd_same] at q ⊢; exact q
    · rw [upd_ne hb] at q ⊢; exact R.sub b u q
  · have : a ≠ p := fun e => np (e ▸ ha)
    rw [upd_ne this]; exact R.out a ha
  · have : a ≠ p := fun e => np (e ▸ List.mem_of_getElem? e1)
    rw [upd_ne this]
    exact (R.obj n a ob e1 e2).mono (same_upd gp) (Pre.refl _)
  · obtain ⟨z1, z2, u, z3⟩ := R.zz z hz
    have : z ≠ p := fun e => R.freshZ hp (e ▸ hz)
    rw [upd_ne this, upd_ne this]
    exact ⟨z1, z2, u, z3⟩
/-- a new thing that changes -/
theorem HR.alloc {p : Addr} {o : HO} {m : MO} (R : HR K Z G ι h H) (hp : H p = none) (ro : RO K G (ι ++ [p]) m (some o)) : HR K Z G (ι ++ [p]) (h ++ [m]) (upd H p o) := by
  have gp := R.gnone hp
  have np := R.fresh hp
  refine ⟨fun b u q => ?_, by simp [R.len], ?_, fun a ha => ?_, fun n a ob e1 e2 => ?_, fun z hz => ?_⟩
  · rw [upd_ne (ne_of_none q gp)]; exact R.sub b u q
  · rw [List.nodup_append]
    refine ⟨R.nd, by simp, fun a ha b hb => ?_⟩
    have : b = p := by simpa using hb
    subst this
    exact fun e => np (e ▸ ha)
  · rcases List.mem_append.mp ha with ha | ha
    · exact R.out a ha
    · have : a = p := by simpa using ha
      subst this; exact gp
  · by_cases hn : n < ι.length
    · rw [List.getElem?_append_left hn] at e1
      rw [List.getElem?_append_left (by rw [← R.len]; exact hn)] at e2
      have : a ≠ p := fun e => np (e ▸ List.mem_of_getElem? e1)
      rw [upd_ne this]
      exact (R.obj n a ob e1 e2).mono (fun _ _ q => q) (Pre.append _ _)
    · have hn' : n = ι.length := by
        have := (List.getElem?_eq_some_iff.mp e1).1
        rw [List.length_append, List.length_singleton] at this
        omega
      subst hn'
      have e1' : p = a := by simpa using e1
      have e2' : m = ob := by
        rw [R.len] at e2
        simpa using e2
      subst e1' e2'
      rw [upd_same]; exact ro
  · obtain ⟨z1, z2, u, z3⟩ := R.zz z hz
    have hzp : z ≠ p := fun e => R.freshZ hp (e ▸ hz)
    rw [upd_ne hzp]
    refine ⟨z1, fun q => ?_, u, z3⟩
    rcases List.mem_append.mp q with q | q
    · exact z2 q
    · exact hzp (by simpa using q)
/-- a changing thing changes -/
theorem HR.put {n : Nat} {a : Addr} {o : HO} {m : MO} (R : HR K Z G ι h H) (e : ι[n]? = some a) (ro : RO K G ι m (some o)) : HR K Z G ι (h.set n m) (upd H a o) := by
  have ha : a ∈ ι := List.mem_of_getElem? e
  have ga := R.out a ha
  refine ⟨fun b u q => ?_, by simp [R.len], R.nd, R.out, fun k b ob e1 e2 => ?_, fun z hz => ?_⟩
  · rw [upd_ne (ne_of_none q ga)]; exact R.sub b u q
  · by_cases hk : k = n
    · subst hk
      rw [e] at e1; cases e1
      have hl : k < h.length := by rw [← R.len]; exact (List.getElem?_eq_some_iff.mp e).1
      rw [List.getElem?_set_self hl] at e2; cases e2
      rw [upd_same]; exact ro
    · rw [List.getElem?_set_ne (Ne.symm hk)] at e2
      have : b ≠ a := fun q => by
        subst q
        obtain ⟨h1, q1⟩ := List.getElem?_eq_some_iff.mp e
        obtain ⟨h2, q2⟩ := List.getElem?_eq_some_iff.mp e1
        exact hk ((List.getElem_inj R.nd).mp (q2.trans q1.symm))
      rw [upd_ne this]
      exact R.obj k b ob e1 e2
  · obtain ⟨z1, z2, u, z3⟩ := R.zz z hz
    have : z ≠ a := fun q => z2 (q ▸ ha)
    rw [upd_ne this]
    exact ⟨z1, z2, u, z3⟩
end

/-! ### what a def leaves behind -/
mutual
/-- all numbers in a value are below n -/
def below (n : Nat) : PV → Prop
  | .non => True
  | .bl _ => True
  | .int _ => True
  | .str _ => True
  | .tup xs => belows n xs
  | .lst xs => belows n xs
  | .dic ks xs => belows n xs
  | .ref k => k < n
  | .exn _ v => below n v
def belows (n : Nat) : List PV → Prop
  | [] => True
  | x :: xs => below n x ∧ belows n xs
end
def belowO (n : Nat) : MO → Prop
  | .lst xs => belows n xs
  | .dic _ xs => belows n xs
  | .ins _ fs => belows n (fs.map (·.2))
/-- what was there has no new things in it -/
def tidy (h0 h' : MH) : Prop := ∀ (n : Nat) (o : MO), n < h0.length → h'[n]? = some o → h0[n]? = some o ∨ belowO h0.length o
def thaw (n0 : Nat) (h : MH) : PV → PV
  | .ref n => if n < n0 then .ref n else match h[n]? with
    | some (.lst xs) => .lst xs
    | _ => .ref n
  | v => v
open Classical in
/-- behind a def: its new things are dropped, a new list that it tells no longer changes -/
noncomputable def leave (h0 : MH) (v : PV) (h' : MH) : PV × MH :=
  if below h0.length (thaw h0.length h' v) ∧ tidy h0 h' ∧ h0.length ≤ h'.length then (thaw h0.length h' v, h'.take h0.length) else (v, h')

section
variable {K : Wr} {Z : List Addr} {G G' : Hp} {ι ι' : List Addr} {h h' : MH} {H H' : Hp}
mutual
theorem RV.bel {n : Nat} (hn : ι.length ≤ n) : ∀ {x : PV} {v : V}, RV K G ι x v → below n x
  | _, _, .non => trivial
  | _, _, .bl _ => trivial
  | _, _, .int _ => trivial
  | _, _, .str _ => trivial
  | _, _, .tup _ r => RVs.bels hn r
  | _, _, .lst _ r => RVs.bels hn r
  | _, _, .dic _ _ r => RVs.bels hn r
  | _, _, .ref h => Nat.lt_of_lt_of_le (List.getElem?_eq_some_iff.mp h).1 hn
  | _, _, .exn (x := x) _ _ _ r => (show below n x from RV.bel hn r)
theorem RVs.bels {n : Nat} (hn : ι.length ≤ n) : ∀ {xs : List PV} {vs : List V}, RVs K G ι xs vs → belows n xs
  | _, _, .nil => trivial
  | _, _, .cons r t => ⟨RV.bel hn r, RVs.bels hn t⟩
end
theorem belows_mem {n : Nat} : ∀ {xs : List PV}, (∀ x ∈ xs, below n x) → belows n xs
  | [], _ => trivial
  | x :: xs, h => ⟨h x List.mem_cons_self, belows_mem fun y hy => h y (List.mem_cons_of_mem _ hy)⟩
theorem belows_of {n : Nat} : ∀ {xs : List PV}, belows n xs → ∀ x ∈ xs, below n x
  | x :: xs, h, y, hy => by
    rcases List.mem_cons.mp hy with rfl | hy
    · exact h.1
    · exact belows_of h.2 y hy
theorem lookup_of_mem_nodup {f : Str} : ∀ {fs : List (Str × PV)} {x : PV}, fs.lookup f = some x → (f, x) ∈ fs
  | (g, y) :: fs, x, h => by
    rw [List.lookup_cons] at h
    cases hb : f == g with
    | true => rw [hb] at h; cases h; rw [beq_iff_eq.mp hb]; exact List.mem_cons_self
    | false => rw [hb] at h; exact List.mem_cons_of_mem _ (lookup_of_mem_nodup h)
mutual
theorem RV.cut {n : Nat} (hs : Same G G') : ∀ {x : PV} {v : V}, RV K G ι x v → below n x → RV K G' (ι.take n) x v
  | _, _, .non, _ => .non
  | _, _, .bl b, _ => .bl b
  | _, _, .int i, _ => .int i
  | _, _, .str x, _ => .str x
  | _, _, .tup h r, q => .tup (Same.seqT hs h) (RVs.cut hs r q)
  | _, _, .lst h r, q => .lst (h.elim (fun q => .inl (hs _ _ q)) fun ⟨o, q⟩ => .inr ⟨o, hs _ _ q⟩) (RVs.cut hs r q)
  | _, _, .dic h e r, q => .dic (h.elim (fun q => .inl (hs _ _ q)) fun ⟨o, q⟩ => .inr ⟨o, hs _ _ q⟩) e (RVs.cut hs r q)
  | _, _, .ref h, q => .ref (by rw [List.getElem?_take_of_lt q]; exact h)
  | _, _, .exn (x := x) e h1 h2 r, q => .exn e (hs _ _ h1) (hs _ _ h2) (RV.cut hs r (show below n x from q))
theorem RVs.cut {n : Nat} (hs : Same G G') : ∀ {xs : List PV} {vs : List V}, RVs K G ι xs vs → belows n xs → RVs K G' (ι.take n) xs vs
  | _, _, .nil, _ => .nil
  | _, _, .cons r t, q => .cons (RV.cut hs r q.1) (RVs.cut hs t q.2)
end
theorem RF.cut {n : Nat} (hs : Same G G') {fs : List (Str × PV)} {gs : List (Str × V)} (r : RF K G ι fs gs) (q : belows n (fs.map (·.2))) : RF K G' (ι.take n) fs gs := fun f => by
  have z := r f
  cases e1 : fs.lookup f with
  | none => cases e2 : gs.lookup f with
    | none => trivial
    | some v => rw [e1, e2] at z; exact z.elim
  | some x => cases e2 : gs.lookup f with
    | none => rw [e1, e2] at z; exact z.elim
    | some v =>
      rw [e1, e2] at z
      exact RV.cut hs z (belows_of q x (List.mem_map.mpr ⟨(f, x), lookup_of_mem_nodup e1, rfl⟩))
theorem RO.cut {n : Nat} (hs : Same G G') {o : MO} {u : Option HO} (r : RO K G ι o u) (q : belowO n o) : RO K G' (ι.take n) o u := by
  cases r with
  | lst r => exact .lst (r.cut hs q)
  | dic e r => exact .dic e (r.cut hs q)
  | ins e nd r => exact .ins e nd (r.cut hs q)
theorem RF.bels {n : Nat} (hn : ι.length ≤ n) : ∀ {fs : List (Str × PV)} {gs : List (Str × V)}, (fs.map (·.1)).Nodup → RF K G ι fs gs → belows n (fs.map (·.2)) := fun {fs gs} nd r => by
  refine belows_mem fun x hx => ?_
  obtain ⟨⟨f, y⟩, hy, rfl⟩ := List.mem_map.mp hx
  have e : fs.lookup f = some y := by
    clear hx r
    induction fs with
    | nil => simp at hy
    | cons p fs ih =>
      obtain ⟨g, z⟩ := p
      rw [List.lookup_cons]
      rw [List.map_cons, List.nodup_cons] at nd
      rcases List.mem_cons.mp hy with e | hy2
      · cases e; simp
      · have : (f == g) = false := by
          refine beq_eq_false_iff_ne.mpr fun e => ?_
          subst e
          exact nd.1 (List.mem_map.mpr ⟨(f, y), hy2, rfl⟩)
        rw [this]
        exact ih nd.2 hy2
  have z := r f
  rw [e] at z
  cases e2 : gs.lookup f with
  | none => rw [e2] at z; exact z.elim
  | some v => rw [e2] at z; exact RV.bel hn z
theorem RO.bel {n : Nat} (hn : ι.length ≤ n) {o : MO} {u : Option HO} (r : RO K G ι o u) : belowO n o := by
  cases r with
  | lst r => exact r.bels hn
  | dic e r => exact r.bels hn
  | ins e nd r => exact RF.bels hn nd r
theorem pre_take {ι ι' : List Addr} (hp : Pre ι ι') (hl : ι.length ≤ ι'.length) : ι'.take ι.length = ι := by
  apply List.ext_getElem?
  intro i
  by_cases hi : i < ι.length
  · rw [List.getElem?_take_of_lt hi]
    exact hp i _ (List.getElem?_eq_getElem hi) |>.trans (List.getElem?_eq_getElem hi).symm
  · rw [List.getElem?_eq_none (by rw [List.length_take]; omega), List.getElem?_eq_none (by omega)]
open Classical in
/-- what stands behind a def, its new things no longer changing -/
noncomputable def gone (G' : Hp) (l : List Addr) (H' : Hp) : Hp := fun b => if b ∈ l then H' b else G' b
/-- the new things of a def are dropped -/
theorem HR.cutTo (R0 : HR K Z G ι h H) (R : HR K Z G' ι' h' H') (hp : Pre ι ι') (ht : tidy h h') (hl : h.length ≤ h'.length) :
    ∃ G'', Same G' G'' ∧ ι'.take h.length = ι ∧ HR K Z G'' ι (h'.take h.length) H' ∧ ∀ a ∈ ι'.drop ι.length, G'' a = H' a := by
  classical
  have hl' : ι.length ≤ ι'.length := by rw [R0.len, R.len]; exact hl
  have et : ι'.take ι.length = ι := pre_take hp hl'
  have et' : ι'.take h.length = ι := by rw [← R0.len]; exact et
  have hd : ∀ a ∈ ι'.drop ι.length, a ∈ ι' ∧ a ∉ ι := fun a ha => by
    refine ⟨List.mem_of_mem_drop ha, fun q => ?_⟩
    have nd' := R.nd
    rw [← List.take_append_drop ι.length ι', et] at nd'
    exact (List.nodup_append.mp nd').2.2 a q a ha rfl
  have hs : Same G' (gone G' (ι'.drop ι.length) H') := fun b u q => by
    unfold gone
    by_cases hb : b ∈ ι'.drop ι.length
    · have := R.out b (hd b hb).1
      rw [this] at q; cases q
    · rw [if_neg hb]; exact q
  refine ⟨gone G' (ι'.drop ι.length) H', hs, et', ⟨fun b u q => ?_, by rw [List.length_take, Nat.min_eq_left hl, R0.len], R0.nd, fun a ha => ?_, fun n a o e1 e2 => ?_, fun z hz => ?_⟩, fun a ha => if_pos ha⟩
  · unfold gone at q
    by_cases hb : b ∈ ι'.drop ι.length
    · rw [if_pos hb] at q; exact q
    · rw [if_neg hb] at q; exact R.sub b u q
  · unfold gone
    have : a ∉ ι'.drop ι.length := fun q => (hd a q).2 ha
    rw [if_neg this]
    obtain ⟨n, hn, e⟩ := List.mem_iff_getElem.mp ha
    exact R.out a (List.mem_of_getElem? (hp n a (by rw [List.getElem?_eq_getElem hn, e])))
  · have hn : n < ι.length := (List.getElem?_eq_some_iff.mp e1).1
    have hn' : n < h.length := by rw [← R0.len]; exact hn
    rw [List.getElem?_take_of_lt hn'] at e2
    have ro := R.obj n a o (hp n a e1) e2
    have hb : belowO h.length o := by
      rcases ht n o hn' e2 with q | q
      · have r0 := R0.obj n a o e1 q
        exact r0.bel (by rw [R0.len]; exact Nat.le_refl _)
      · exact q
    have := ro.cut hs hb
    rwa [et'] at this
  · obtain ⟨z1, z2, z3⟩ := R.zz z hz
    unfold gone
    have : z ∉ ι'.drop ι.length := fun q => z2 (hd z q).1
    rw [if_neg this]
    refine ⟨z1, fun q => ?_, z3⟩
    obtain ⟨n, hn, e⟩ := List.mem_iff_getElem.mp q
    exact z2 (List.mem_of_getElem? (hp n z (by rw [List.getElem?_eq_getElem hn, e])))
end
end Mx


set_option Elab.async false
set_option linter.all false
set_option maxRecDepth 100000
set_option maxHeartbeats 2000000
/-! The small language: its syntax, what it does. -/
namespace Mx
open PySem PySem.Spec PyProof.Rows L2

inductive Bo where
  | add | sub | mul | fdiv | mod | pow
  deriving DecidableEq
inductive Co where
  | eq | ne | lt | le | gt | ge | isN | isntN | inn | nin
  deriving DecidableEq
/-- built-in functions and types that are called -/
inductive Bi where
  | len | abs | min | max | int | tuple | list | any | all | gcd
  deriving DecidableEq
/-- methods of built-in types -/
inductive Mt where
  | append | extend
  deriving DecidableEq

mutual
inductive Ae where
  | v (i : Nat)
  | non | bl (b : Bool) | int (i : Int) | str (x : Str)
  | con (x : Str)
  | tup (es : Aes)
  | lst (r : Bool) (es : Aes)
  | bin (op : Bo) (r : Bool) (a b : Ae)
  | neg (a : Ae)
  | not (a : Ae)
  | cmp (op : Co) (a b : Ae)
  | chain (op op' : Co) (a b c : Ae)
  | and (es : Aes)
  | or (es : Aes)
  | ifx (c a b : Ae)
  | ix (a i : Ae)
  | sl (r : Bool) (a : Ae) (lo hi : Ao)
  | call (f : Str) (es : Aes) (ks : List Str) (kes : Aes)
  | blt (f : Bi) (r : Bool) (es : Aes)
  | isi (a : Ae) (ts : List String)
  | met (m : Mt) (o : Ae) (es : Aes)
  | comp (r : Bool) (elt : Ae) (g : Ag) (it : Ai) (ifs : Ao) (own : List (Str × Nat))
  | val (i : Nat)
inductive Aes where
  | nil
  | cons (e : Ae) (es : Aes)
inductive Ao where
  | none
  | some (e : Ae)
inductive Ai where
  | ex (e : Ae)
  | range1 (e : Ae)
  | range2 (a b : Ae)
inductive Ag where
  | nm (i : Nat)
  | tp (gs : Ags)
inductive Ags where
  | nil
  | cons (g : Ag) (gs : Ags)
end
mutual
inductive As where
  | ex (e : Ae)
  | set (g : Ag) (e : Ae)
  | put (o i e : Ae)
  | ite (c : Ae) (a b : Ass)
  | whl (c : Ae) (b : Ass)
  | for (g : Ag) (it : Ai) (b : Ass)
  | ret (e : Ae)
  | retN
  | rais (c : Str) (e : Ae) (kw : Bool)
  | try (b : Ass) (hs : Ahs)
  | brk | cnt | pas
inductive Ass where
  | nil
  | cons (s : As) (ss : Ass)
inductive Ahs where
  | nil
  | cons (c : Str) (n : Option Nat) (b : Ass) (hs : Ahs)
end

/-- a def: how many parameters, how many names, the body -/
structure Fn where
  ns : Nat
  ps : List Str
  body : Ass
  kp : Bool := false
/-- a program: its defs, its constants, which class is below which -/
structure Pg where
  fns : Str → Option Fn
  con : Str → Option PV
  exc : List Str

/-! ### what runs hand on -/
def Res.bind {α β : Type} : Res α → (α → MH → Res β) → Res β
  | .ok a h, f => f a h
  | .exn c v h, _ => .exn c v h
  | .stuck, _ => .stuck
/-- no exception may leave -/
def Res.nox {α : Type} : Res α → Res α
  | .exn _ _ _ => .stuck
  | r => r

/-! ### data -/
mutual
/-- a value without numbers of changing things, as the library's data; rd: what a changing thing is read as -/
def toD (rd : Nat → Option PyData) : PV → Option PyData
  | .non => some .none
  | .bl b => some (.bool b)
  | .int i => some (.int i)
  | .str x => some (.str x)
  | .tup xs => (toDs rd xs).map .tuple
  | .lst xs => (toDs rd xs).map .list
  | .dic _ _ => none
  | .ref n => rd n
  | .exn _ _ => none
def toDs (rd : Nat → Option PyData) : List PV → Option (List PyData)
  | [] => some []
  | x :: xs => match toD rd x, toDs rd xs with
    | some d, some ds => some (d :: ds)
    | _, _ => none
end
def rd0 (h : MH) (n : Nat) : Option PyData := match h[n]? with
  | some (.lst xs) => (toDs (fun _ => none) xs).map .list
  | _ => none
def rd1 (h : MH) (n : Nat) : Option PyData := match h[n]? with
  | some (.lst xs) => (toDs (rd0 h) xs).map .list
  | _ => none
def flat : PV → Bool
  | .non => true
  | .bl _ => true
  | .int _ => true
  | .str _ => true
  | _ => false
/-- == of values without parts -/
def eqF : PV → PV → Bool
  | .non, .non => true
  | .bl a, .bl b => a == b
  | .bl a, .int b => (if a then 1 else 0) == b
  | .int a, .bl b => a == (if b then 1 else 0)
  | .int a, .int b => a == b
  | .str a, .str b => a == b
  | _, _ => false
/-- two values without parts whose == is told at once -/
def scalP : PV → PV → Bool
  | .non, .non => true | .non, .int _ => true | .int _, .non => true | .non, .bl _ => true | .bl _, .non => true | .non, .str _ => true | .str _, .non => true
  | .int _, .int _ => true | .bl _, .bl _ => true | .str _, .str _ => true
  | .int _, .str _ => true | .str _, .int _ => true | .bl _, .str _ => true | .str _, .bl _ => true
  | _, _ => false
def peqD (h : MH) (a b : PV) : Option Bool := match toD (rd1 h) a, toD (rd1 h) b with
  | some d, some e => if SeqAt.shaped d && SeqAt.shaped e then some (PyData.eqv d e) else none
  | _, _ => none
def peq (h : MH) (a b : PV) : Option Bool := if scalP a b then some (eqF a b) else peqD h a b
/-- the items of a list or tuple -/
def items (h : MH) : PV → Option (List PV)
  | .tup xs => some xs
  | .lst xs => some xs
  | .ref n => match h[n]? with
    | some (.lst xs) => some xs
    | _ => none
  | _ => none
def truthy (h : MH) : PV → Option Bool
  | .non => some false
  | .bl b => some b
  | .int i => some (i != 0)
  | .str x => if x.length ≤ sizeLine then some (x.length != 0) else none
  | .tup xs => some (!xs.isEmpty)
  | .lst xs => some (!xs.isEmpty)
  | .ref n => match h[n]? with
    | some (.lst xs) => some (!xs.isEmpty)
    | _ => none
  | _ => none
def mkLst (r : Bool) (xs : List PV) (h : MH) : Res PV := if r then .ok (.ref h.length) (h ++ [.lst xs]) else .ok (.lst xs) h
/-- bits enough for a product -/
def fits (i j : Int) : Prop := i.natAbs.log2 + j.natAbs.log2 < 1000000
/-- a divisor that is not too long -/
def fitd (j : Int) : Prop := j.natAbs.log2 < 9000

/-- the items of a list -/
def litems (h : MH) : PV → Option (List PV)
  | .lst xs => some xs
  | .ref n => match h[n]? with
    | some (.lst xs) => some xs
    | _ => none
  | _ => none
def addop (r : Bool) : PV → PV → MH → Res PV
  | .int i, .int j, h => .ok (.int (i + j)) h
  | .str x, .str y, h => if x.length + y.length ≤ sizeLine then .ok (.str (x ++ y)) h else .stuck
  | .tup xs, .tup ys, h => if xs.length + ys.length ≤ sizeLine then .ok (.tup (xs ++ ys)) h else .stuck
  | a, b, h => match litems h a, litems h b with
    | some xs, some ys => if xs.length + ys.length ≤ sizeLine then mkLst r (xs ++ ys) h else .stuck
    | _, _ => .stuck
def subop : PV → PV → MH → Res PV
  | .int i, .int j, h => .ok (.int (i - j)) h
  | _, _, _ => .stuck
open Classical in
noncomputable def mulop (r : Bool) : PV → PV → MH → Res PV
  | .int i, .int j, h => if fits i j then .ok (.int (i * j)) h else .stuck
  | a, .int k, h => match litems h a with
    | some xs => if -(2 ^ 63) ≤ k ∧ k < 2 ^ 63 ∧ xs.length * k.toNat ≤ sizeLine then mkLst r (List.replicate k.toNat xs).flatten h else .stuck
    | none => .stuck
  | _, _, _ => .stuck
open Classical in
noncomputable def divop : PV → PV → MH → Res PV
  | .int i, .int j, h => if j ≠ 0 ∧ fitd j then .ok (.int (i.fdiv j)) h else .stuck
  | _, _, _ => .stuck
def modop : PV → PV → MH → Res PV
  | .int i, .int j, h => if j ≠ 0 then .ok (.int (i.fmod j)) h else .stuck
  | _, _, _ => .stuck
def powop : PV → PV → MH → Res PV
  | .int i, .int j, h => if 0 ≤ j ∧ j ≤ 1000000 ∧ i.natAbs < 2 ^ 64 then .ok (.int (i ^ j.toNat)) h else .stuck
  | _, _, _ => .stuck
noncomputable def binop (op : Bo) (r : Bool) (a b : PV) (h : MH) : Res PV := match op with
  | .add => addop r a b h
  | .sub => subop a b h
  | .mul => mulop r a b h
  | .fdiv => divop a b h
  | .mod => modop a b h
  | .pow => powop a b h
def inSeq (h : MH) (x : PV) (xs : List PV) : Option Bool := if flat x && xs.all flat then some (xs.any fun y => eqF y x) else none
def ltop : PV → PV → Option Bool
  | .int i, .int j => some (decide (i < j))
  | .str x, .str y => some (decide (x.cps.toList < y.cps.toList))
  | _, _ => none
def leop : PV → PV → Option Bool
  | .int i, .int j => some (decide (i ≤ j))
  | .str x, .str y => some (!decide (y.cps.toList < x.cps.toList))
  | _, _ => none
def isNon : PV → Bool
  | .non => true
  | _ => false
def inop (h : MH) : PV → PV → Option Bool
  | .str x, .str y => some (!(Builtin.Str.occurrences y x 0 y.length 1).isEmpty)
  | a, b => match items h b with
    | some xs => inSeq h a xs
    | none => none
def cmpop (op : Co) (a b : PV) (h : MH) : Option Bool := match op with
  | .eq => peq h a b
  | .ne => (peq h a b).map (!·)
  | .lt => ltop a b
  | .le => leop a b
  | .gt => ltop b a
  | .ge => leop b a
  | .isN => if isNon b then some (isNon a) else none
  | .isntN => if isNon b then some (!isNon a) else none
  | .inn => inop h a b
  | .nin => (inop h a b).map (!·)
def ofB (o : Option Bool) (h : MH) : Res PV := match o with
  | some b => .ok (.bl b) h
  | none => .stuck
def ixop : PV → PV → MH → Res PV
  | .str x, .int k, h => if x.length ≤ sizeLine then match atI x.cps.toList k with
    | some c => .ok (.str ⟨#[c]⟩) h
    | none => .stuck
    else .stuck
  | a, .int k, h => match items h a with
    | some xs => match atI xs k with
      | some y => .ok y h
      | none => .stuck
    | none => .stuck
  | _, _, _ => .stuck
/-- a slice -/
def cutP (xs : List PV) (lo hi : Option Int) : List PV := (xs.drop (HT.sIx xs.length 0 lo)).take (HT.sIx xs.length xs.length hi - HT.sIx xs.length 0 lo)
def slop (r : Bool) : PV → Option Int → Option Int → MH → Res PV
  | .tup xs, lo, hi, h => .ok (.tup (cutP xs lo hi)) h
  | a, lo, hi, h => match litems h a with
    | some xs => mkLst r (cutP xs lo hi) h
    | none => .stuck
def allB : List PV → Option (List Bool)
  | [] => some []
  | .bl b :: xs => (allB xs).map (b :: ·)
  | _ :: _ => none
def lenop : PV → MH → Res PV
  | .str x, h => if x.length ≤ sizeLine then .ok (.int x.length) h else .stuck
  | a, h => match items h a with
    | some xs => .ok (.int xs.length) h
    | none => .stuck
def intop : PV → MH → Res PV
  | .int i, h => .ok (.int i) h
  | .bl b, h => .ok (.int (if b then 1 else 0)) h
  | _, _ => .stuck
def tupop (a : PV) (h : MH) : Res PV := match items h a with
  | some xs => .ok (.tup xs) h
  | none => .stuck
def lstop (r : Bool) (a : PV) (h : MH) : Res PV := match items h a with
  | some xs => mkLst r xs h
  | none => .stuck
def boolsop (f : List Bool → Bool) (a : PV) (h : MH) : Res PV := match litems h a with
  | some xs => match allB xs with
    | some bs => .ok (.bl (f bs)) h
    | none => .stuck
  | none => .stuck
def int1 (f : Int → Int) : PV → MH → Res PV
  | .int i, h => .ok (.int (f i)) h
  | _, _ => .stuck
def int2 (f : Int → Int → Int) : PV → PV → MH → Res PV
  | .int i, .int j, h => .ok (.int (f i j)) h
  | _, _, _ => .stuck
def bltop (f : Bi) (r : Bool) (as : List PV) (h : MH) : Res PV := match f with
  | .len => match as with
    | [a] => lenop a h
    | _ => .stuck
  | .abs => match as with
    | [a] => int1 (fun i => if i < 0 then -i else i) a h
    | _ => .stuck
  | .min => match as with
    | [a, b] => int2 (fun i j => if j < i then j else i) a b h
    | _ => .stuck
  | .max => match as with
    | [a, b] => int2 (fun i j => if j > i then j else i) a b h
    | _ => .stuck
  | .int => match as with
    | [a] => intop a h
    | _ => .stuck
  | .tuple => match as with
    | [a] => tupop a h
    | _ => .stuck
  | .list => match as with
    | [a] => lstop r a h
    | _ => .stuck
  | .any => match as with
    | [a] => boolsop (fun bs => bs.any id) a h
    | _ => .stuck
  | .all => match as with
    | [a] => boolsop (fun bs => bs.all id) a h
    | _ => .stuck
  | .gcd => match as with
    | [a, b] => int2 (fun i j => ((Nat.gcd i.natAbs j.natAbs : Nat) : Int)) a b h
    | _ => .stuck
/-- a value's type, if it is data -/
def tyOf (h : MH) : PV → Option String
  | .non => some "NoneType"
  | .bl _ => some "bool"
  | .int _ => some "int"
  | .str _ => some "str"
  | .tup _ => some "tuple"
  | .lst _ => some "list"
  | .dic _ _ => some "dict"
  | .ref n => match h[n]? with
    | some (.lst _) => some "list"
    | some (.dic _ _) => some "dict"
    | _ => none
  | .exn _ _ => none
/-- a type is another one or below it -/
def subB (t1 t2 : String) : Bool := t1 == t2 || (t1 == "bool" && t2 == "int")
/-- the types that are asked for -/
def askT : List String := ["bool", "int", "str", "tuple", "list", "dict"]
/-- an exception's class is another one or below it -/
def subT (exc : List Str) (t1 t2 : Str) : Bool := t1 == t2 || t2 == ("WishError" : Str) || t2 == ("ValueError" : Str)
def isiop (a : PV) (ts : List String) (h : MH) : Option Bool := (tyOf h a).map fun t => ts.any (subB t)
def appop : PV → PV → MH → Res PV
  | .ref n, x, h => match h[n]? with
    | some (.lst xs) => if xs.length < sizeLine then .ok .non (h.set n (.lst (xs ++ [x]))) else .stuck
    | _ => .stuck
  | _, _, _ => .stuck
def extop : PV → PV → MH → Res PV
  | .ref n, a, h => match h[n]?, litems h a with
    | some (.lst xs), some ys => if xs.length + ys.length ≤ sizeLine then .ok .non (h.set n (.lst (xs ++ ys))) else .stuck
    | _, _ => .stuck
  | _, _, _ => .stuck
/-- what a method is asked of -/
def metok (m : Mt) (o : PV) (h : MH) : Bool := match o with
  | .ref n => match h[n]? with
    | some (.lst _) => true
    | _ => false
  | _ => false
def metop (m : Mt) (o : PV) (as : List PV) (h : MH) : Res PV := match as with
  | [a] => match m with
    | .append => appop o a h
    | .extend => extop o a h
  | _ => .stuck

/-! ### slots -/
abbrev Env' := List (Option PV)
def wipeP (ρ : Env') : List Nat → Env'
  | [] => ρ
  | v :: vs => (wipeP ρ vs).set v none
mutual
def bindG : Ag → PV → Env' → MH → Option Env'
  | .nm i, x, ρ, _ => if i < ρ.length then some (ρ.set i (some x)) else none
  | .tp gs, x, ρ, h => match x with
    | .tup xs => bindGs gs xs ρ h
    | _ => none
def bindGs : Ags → List PV → Env' → MH → Option Env'
  | .nil, [], ρ, _ => some ρ
  | .cons g gs, x :: xs, ρ, h => match bindG g x ρ h with
    | some ρ' => bindGs gs xs ρ' h
    | none => none
  | _, _, _, _ => none
end
/-- what a loop goes through: the changing lists that must stay as they are, the items -/
abbrev Src := List (Nat × List PV) × List PV
def chk (l : List (Nat × List PV)) (h : MH) : Prop := ∀ p ∈ l, h[p.1]? = some (.lst p.2)
open Classical in
noncomputable def compL (body : PV → MH → Res (Option PV)) (l : List (Nat × List PV)) : List PV → List PV → MH → Res (List PV)
  | [], acc, h => if chk l h then .ok acc h else .stuck
  | x :: xs, acc, h => if chk l h then (body x h).bind fun o h => compL body l xs (match o with | none => acc | some y => acc ++ [y]) h else .stuck

/-! ### expressions -/
/-- what a call of a def hands on -/
abbrev Calls := Str → List PV → List Str → List PV → MH → Res PV
section
variable (P : Pg) (cl : Calls)
def src (a : PV) (h : MH) : Option Src := match a with
  | .tup xs => some ([], xs)
  | .lst xs => some ([], xs)
  | .str x => some ([], x.cps.toList.map fun c => PV.str ⟨#[c]⟩)
  | .ref n => match h[n]? with
    | some (.lst xs) => some ([(n, xs)], xs)
    | _ => none
  | _ => none
mutual
noncomputable def ev : Ae → Env' → MH → Res PV
  | .v i, ρ, h => match ρ[i]? with
    | some (some x) => .ok x h
    | _ => .stuck
  | .non, _, h => .ok .non h
  | .bl b, _, h => .ok (.bl b) h
  | .int i, _, h => .ok (.int i) h
  | .str x, _, h => .ok (.str x) h
  | .con x, _, h => match P.con x with
    | some v => .ok v h
    | none => .stuck
  | .tup es, ρ, h => (evs es ρ h).bind fun xs h => .ok (.tup xs) h
  | .lst r es, ρ, h => (evs es ρ h).bind fun xs h => mkLst r xs h
  | .bin op r a b, ρ, h => (ev a ρ h).bind fun x h => (ev b ρ h).bind fun y h => binop op r x y h
  | .neg a, ρ, h => (ev a ρ h).bind fun x h => match x with
    | .int i => .ok (.int (-i)) h
    | _ => .stuck
  | .not a, ρ, h => (ev a ρ h).bind fun x h => ofB ((truthy h x).map (!·)) h
  | .cmp op a b, ρ, h => (ev a ρ h).bind fun x h => (ev b ρ h).bind fun y h => ofB (cmpop op x y h) h
  | .chain op op' a b c, ρ, h => (ev a ρ h).bind fun x h => (ev b ρ h).bind fun y h => match cmpop op x y h with
    | some true => (ev c ρ h).bind fun z h => ofB (cmpop op' y z h) h
    | some false => .ok (.bl false) h
    | none => .stuck
  | .and es, ρ, h => evAnd es ρ h
  | .or es, ρ, h => evOr es ρ h
  | .ifx c a b, ρ, h => (ev c ρ h).bind fun x h => match truthy h x with
    | some true => ev a ρ h
    | some false => ev b ρ h
    | none => .stuck
  | .ix a i, ρ, h => (ev a ρ h).bind fun x h => (ev i ρ h).bind fun y h => ixop x y h
  | .sl r a lo hi, ρ, h => (ev a ρ h).bind fun x h => (evo lo ρ h).bind fun l h => (evo hi ρ h).bind fun u h => slop r x l u h
  | .call f es ks kes, ρ, h => (evs es ρ h).bind fun xs h => (evs kes ρ h).bind fun ys h => cl f xs ks ys h
  | .blt f r es, ρ, h => (evs es ρ h).bind fun xs h => bltop f r xs h
  | .isi a ts, ρ, h => (ev a ρ h).bind fun x h => ofB (isiop x ts h) h
  | .met m o es, ρ, h => (ev o ρ h).bind fun x h => if metok m x h = true then (evs es ρ h).bind fun xs h => metop m x xs h else .stuck
  | .comp r elt g it ifs own, ρ, h => (evi it ρ h).bind fun s h => (compL (fun x h => Res.nox (match bindG g x (wipeP ρ (own.map (·.2))) h with
      | some ρ' => (evIfs ifs ρ' h).bind fun b h => if b = true then (ev elt ρ' h).bind fun y h => .ok (some y) h else .ok none h
      | none => .stuck)) s.1 s.2 [] h).bind fun xs h => if xs.length ≤ sizeLine then mkLst r xs h else .stuck
  | .val i, ρ, h => match ρ[i]? with
    | some (some (.exn c v)) => if P.exc.contains c = true then .ok v h else .stuck
    | _ => .stuck
noncomputable def evs : Aes → Env' → MH → Res (List PV)
  | .nil, _, h => .ok [] h
  | .cons e es, ρ, h => (ev e ρ h).bind fun x h => (evs es ρ h).bind fun xs h => .ok (x :: xs) h
noncomputable def evAnd : Aes → Env' → MH → Res PV
  | .nil, _, _ => .stuck
  | .cons e .nil, ρ, h => ev e ρ h
  | .cons e es, ρ, h => (ev e ρ h).bind fun x h => match truthy h x with
    | some true => evAnd es ρ h
    | some false => .ok x h
    | none => .stuck
noncomputable def evOr : Aes → Env' → MH → Res PV
  | .nil, _, _ => .stuck
  | .cons e .nil, ρ, h => ev e ρ h
  | .cons e es, ρ, h => (ev e ρ h).bind fun x h => match truthy h x with
    | some true => .ok x h
    | some false => evOr es ρ h
    | none => .stuck
noncomputable def evIfs : Ao → Env' → MH → Res Bool
  | .none, _, h => .ok true h
  | .some e, ρ, h => (ev e ρ h).bind fun x h => match truthy h x with
    | some b => .ok b h
    | none => .stuck
noncomputable def evo : Ao → Env' → MH → Res (Option Int)
  | .none, _, h => .ok none h
  | .some e, ρ, h => (ev e ρ h).bind fun x h => match x with
    | .int i => .ok (some i) h
    | _ => .stuck
noncomputable def evi : Ai → Env' → MH → Res Src
  | .ex e, ρ, h => (ev e ρ h).bind fun x h => match src x h with
    | some s => .ok s h
    | none => .stuck
  | .range1 e, ρ, h => (ev e ρ h).bind fun x h => match x with
    | .int j => if -(2 ^ 62) ≤ j ∧ j < 2 ^ 62 then .ok ([], (List.range j.toNat).map fun (k : Nat) => PV.int (k : Int)) h else .stuck
    | _ => .stuck
  | .range2 a b, ρ, h => (ev a ρ h).bind fun x h => (ev b ρ h).bind fun y h => match x, y with
    | .int i, .int j => if -(2 ^ 62) ≤ i ∧ i < 2 ^ 62 ∧ -(2 ^ 62) ≤ j ∧ j < 2 ^ 62 then .ok ([], (List.range (j - i).toNat).map fun (k : Nat) => PV.int (i + (k : Int))) h else .stuck
    | _, _ => .stuck
end
end

/-! ### statements -/
inductive Out where
  | nx (ρ : Env') (h : MH) | rt (v : PV) (h : MH) | bk (ρ : Env') (h : MH) | ct (ρ : Env') (h : MH)
  | exn (c : Str) (v : PV) (ρ : Env') (h : MH) | stuck
/-- an expression's outcome goes on -/
def Res.out {α : Type} (r : Res α) (ρ : Env') (f : α → MH → Out) : Out := match r with
  | .ok a h => f a h
  | .exn c v h => .exn c v ρ h
  | .stuck => .stuck
def Out.seq (o : Out) (f : Env' → MH → Out) : Out := match o with
  | .nx ρ h => f ρ h
  | o => o
/-- no exception may leave -/
def Out.nox (o : Out) : Out := match o with
  | .exn _ _ _ _ => .stuck
  | o => o
/-- behind an except suite with a name -/
def Out.gone (o : Out) (i : Nat) : Out := match o with
  | .nx ρ h => .nx (ρ.set i none) h
  | .bk ρ h => .bk (ρ.set i none) h
  | .ct ρ h => .ct (ρ.set i none) h
  | .rt v h => .rt v h
  | _ => .stuck
/-- a loop's turn is over -/
def Out.turn (o : Out) (f : Env' → MH → Out) : Out := match o with
  | .nx ρ h => f ρ h
  | .ct ρ h => f ρ h
  | .bk ρ h => .nx ρ h
  | o => o
open Classical in
noncomputable def forL (body : PV → Env' → MH → Out) (l : List (Nat × List PV)) : List PV → Env' → MH → Out
  | [], ρ, h => if chk l h then .nx ρ h else .stuck
  | x :: xs, ρ, h => if chk l h then (body x ρ h).turn (forL body l xs) else .stuck
def whlN (c : Env' → MH → Res Bool) (b : Env' → MH → Out) : Nat → Env' → MH → Out
  | 0, _, _ => .stuck
  | n + 1, ρ, h => (c ρ h).out ρ fun t h => if t = true then (b ρ h).turn (whlN c b n) else .nx ρ h
open Classical in
noncomputable def whlE (c : Env' → MH → Res Bool) (b : Env' → MH → Out) (ρ : Env') (h : MH) : Out :=
  if e : ∃ n, whlN c b n ρ h ≠ .stuck then whlN c b (Classical.choose e) ρ h else .stuck
/-- o[i] = v -/
def putop (o i v : PV) (h : MH) : Option MH := match o, i with
  | .ref n, .int k => match h[n]? with
    | some (.lst xs) => match ixN xs.length k with
      | some j => some (h.set n (.lst (xs.set j v)))
      | none => none
    | _ => none
  | _, _ => none
section
variable (P : Pg) (cl : Calls)
noncomputable def tst (e : Ae) (ρ : Env') (h : MH) : Res Bool := (ev P cl e ρ h).bind fun x h => match truthy h x with
  | some b => .ok b h
  | none => .stuck
mutual
noncomputable def run1 : As → Env' → MH → Out
  | .ex e, ρ, h => (ev P cl e ρ h).out ρ fun _ h => .nx ρ h
  | .set g e, ρ, h => (ev P cl e ρ h).out ρ fun x h => match bindG g x ρ h with
    | some ρ' => .nx ρ' h
    | none => .stuck
  | .put o i e, ρ, h => (ev P cl e ρ h).out ρ fun x h => (ev P cl o ρ h).out ρ fun a h => (ev P cl i ρ h).out ρ fun k h => match putop a k x h with
    | some h => .nx ρ h
    | none => .stuck
  | .ite c a b, ρ, h => (tst P cl c ρ h).out ρ fun t h => if t = true then runs a ρ h else runs b ρ h
  | .whl c b, ρ, h => whlE (tst P cl c) (runs b) ρ h
  | .for g it b, ρ, h => (evi P cl it ρ h).out ρ fun s h => forL (fun x ρ h => match bindG g x ρ h with
    | some ρ' => runs b ρ' h
    | none => .stuck) s.1 s.2 ρ h
  | .ret e, ρ, h => (ev P cl e ρ h).out ρ fun x h => .rt x h
  | .retN, _, h => .rt .non h
  | .rais c e _, ρ, h => (ev P cl e ρ h).out ρ fun x h => .exn c x ρ h
  | .try b hs, ρ, h => match runs b ρ h with
    | .exn c v ρ h => if P.exc.contains c = true then runH hs c v ρ h else .stuck
    | o => o
  | .brk, ρ, h => .bk ρ h
  | .cnt, ρ, h => .ct ρ h
  | .pas, ρ, h => .nx ρ h
noncomputable def runs : Ass → Env' → MH → Out
  | .nil, ρ, h => .nx ρ h
  | .cons s ss, ρ, h => (run1 s ρ h).seq (runs ss)
noncomputable def runH : Ahs → Str → PV → Env' → MH → Out
  | .nil, c, v, ρ, h => .exn c v ρ h
  | .cons t n b hs, c, v, ρ, h => if subT P.exc c t = true then match n with
      | none => (runs b ρ h).nox
      | some i => if i < ρ.length then (runs b (ρ.set i (some (.exn c v))) h).gone i else .stuck
    else runH hs c v ρ h
end
end
/-- the parameters' values, in their order, from those by place and those by name -/
def looks {α : Type} (kv : List (Str × α)) : List Str → Option (List α)
  | [] => some []
  | p :: ps => match kv.lookup p, looks kv ps with
    | some a, some as => some (a :: as)
    | _, _ => none
def argsOf {α : Type} (ps : List Str) (xs : List α) (ks : List Str) (ys : List α) : Option (List α) :=
  if xs.length + ks.length = ps.length ∧ ks.length = ys.length ∧ ks.Nodup ∧ ∀ k ∈ ks, k ∈ ps.drop xs.length then
    (looks (ks.zip ys) (ps.drop xs.length)).map fun zs => xs ++ zs
  else none
/-- what a def's body hands on to its caller; kp: a list that it tells goes on changing -/
noncomputable def Out.res (kp : Bool) (h : MH) : Out → Res PV
  | .nx _ h' => if kp = true then .ok .non h' else .ok (leave h .non h').1 (leave h .non h').2
  | .rt v h' => if kp = true then .ok v h' else .ok (leave h v h').1 (leave h v h').2
  | .exn c v _ h' => if kp = true then .exn c v h' else .exn c (leave h v h').1 (leave h v h').2
  | _ => .stuck
/-- a def's body at bound arguments -/
noncomputable def body (P : Pg) (cl : Calls) (d : Fn) (as : List PV) (h : MH) : Res PV :=
  (runs P cl d.body (as.map some ++ List.replicate (d.ns - as.length) none) h).res d.kp h
/-- a call, n deep -/
noncomputable def call (P : Pg) : Nat → Calls
  | 0, _, _, _, _, _ => .stuck
  | n + 1, f, xs, ks, ys, h => match P.fns f with
    | none => .stuck
    | some d => match argsOf d.ps xs ks ys with
      | none => .stuck
      | some as => body P (call P n) d as h
end Mx


set_option Elab.async false
set_option linter.all false
set_option maxRecDepth 100000
set_option maxHeartbeats 2000000
/-! Which text stands for which term: a look that the kernel does. -/
namespace Mx
open PySem PySem.Spec PyProof.Rows L2

def visB (sc : Scope) (x : Str) : Bool := match sc.names.lookup x with
  | some .local => true
  | some .cell => true
  | some .free => true
  | _ => false
def locB (sc : Scope) (x : Str) : Bool := match sc.names.lookup x with
  | some .local => true
  | some .cell => true
  | _ => false
def onlyLocB (sc : Scope) (x : Str) : Bool := match sc.names.lookup x with
  | some .local => true
  | _ => false
def gloB (sc : Scope) (x : Str) : Bool := match sc.names.lookup x with
  | some .globalImplicit => !(x == ("__debug__" : Str))
  | _ => false
def boM : Bo → Operator → Bool
  | .add, .Add => true
  | .sub, .Sub => true
  | .mul, .Mult => true
  | .fdiv, .FloorDiv => true
  | .mod, .Mod => true
  | .pow, .Pow => true
  | _, _ => false
def coM : Co → CmpOp → Bool
  | .eq, .Eq => true
  | .ne, .NotEq => true
  | .lt, .Lt => true
  | .le, .LtE => true
  | .gt, .Gt => true
  | .ge, .GtE => true
  | .isN, .Is => true
  | .isntN, .IsNot => true
  | .inn, .In => true
  | .nin, .NotIn => true
  | _, _ => false
def biN : Bi → Str
  | .len => "len"
  | .abs => "abs"
  | .min => "min"
  | .max => "max"
  | .int => "int"
  | .tuple => "tuple"
  | .list => "list"
  | .any => "any"
  | .all => "all"
  | .gcd => "gcd"
def mtN : Mt → Str
  | .append => "append"
  | .extend => "extend"
def noSpecial (x : Str) : Bool := !(x == ("__debug__" : Str)) && !(x == ("__classdict__" : Str))
/-- how many arguments a built-in is looked at with -/
def biA : Bi → Nat
  | .min => 2
  | .max => 2
  | .gcd => 2
  | _ => 1
/-- what may be called anywhere -/
def biC : Bi → Bool
  | .min => false
  | .max => false
  | .any => false
  | .all => false
  | _ => true
def isSlice : Expr → Bool
  | .Slice _ _ _ _ => true
  | _ => false
/-- no call without arguments of a name -/
def plainO : Expr → Bool
  | .Call (.Name _ _) [] [] _ => false
  | _ => true
def Aes.len : Aes → Nat
  | .nil => 0
  | .cons _ es => es.len + 1
/-- what is looked at besides: names that the module leaves to the built-ins; the names of defs with how they are called -/
structure Lk where
  fr : List Str
  gcd : Bool
  cons : List Str
  exc : List Str
  fns : List Str
  hot : Bool
section
variable (L : Lk) (N : List Str)
def freeB (sc : Scope) (x : Str) : Bool := gloB sc x && L.fr.contains x
/-- the scope of a block within -/
abbrev inS (scope sc : Scope) : Scope := relS scope sc
def tyE (sc : Scope) (t : String) : Expr → Bool
  | .Name x _ => x == (t : Str) && freeB L sc x && askT.contains t
  | _ => false
def tyEs (sc : Scope) : List String → List Expr → Bool
  | [], [] => true
  | t :: ts, e :: es => tyE L sc t e && tyEs sc ts es
  | _, _ => false
def Ag.slots : Ag → List Nat
  | .nm i => [i]
  | .tp gs => gsl gs
where gsl : Ags → List Nat
  | .nil => []
  | .cons g gs => g.slots ++ gsl gs
mutual
def mE (sc : Scope) : Ae → Expr → Bool
  | .v i, .Name x _ => decide (N[i]? = some x) && visB sc x && noSpecial x
  | .non, .Constant .none _ _ => true
  | .bl b, .Constant (.bool c) _ _ => b == c
  | .int i, .Constant (.int j) _ _ => decide (i = j)
  | .str x, .Constant (.str y) _ _ => decide (x = y)
  | .con x, .Name y _ => decide (x = y) && gloB sc y && L.cons.contains y
  | .tup es, .Tuple xs _ _ => mEs sc es xs && decide (es.len ≤ 1000)
  | .lst _ es, .List xs _ => mEs sc es xs && decide (es.len ≤ 1000)
  | .bin op _ a b, .BinOp x o y _ => boM op o && mE sc a x && mE sc b y
  | .neg a, .UnaryOp .USub x _ => mE sc a x
  | .not a, .UnaryOp .Not x _ => mE sc a x
  | .cmp op a b, .Compare x [o] [y] _ => coM op o && mE sc a x && mE sc b y
  | .chain op op' a b c, .Compare x [o, o'] [y, z] _ => coM op o && coM op' o' && mE sc a x && mE sc b y && mE sc c z
  | .and es, .BoolOp .And xs _ => mEs sc es xs
  | .or es, .BoolOp .Or xs _ => mEs sc es xs
  | .ifx c a b, .IfExp x y z _ => mE sc c x && mE sc a y && mE sc b z
  | .ix a i, .Subscript x y _ => mE sc a x && mE sc i y
  | .sl _ a lo hi, .Subscript x (.Slice l h none _) _ => mE sc a x && mO sc lo l && mO sc hi h
  | .call f es ks kes, .Call (.Name g _) xs kws _ => decide (f = g) && gloB sc g && L.fns.contains g && !L.hot && mEs sc es xs && mKs sc ks kes kws
  | .blt f _ es, .Call (.Name g _) xs [] _ => decide (biN f = g) && gloB sc g && (if f = .gcd then L.gcd else L.fr.contains g) && (biC f || !L.hot) && mEs sc es xs && decide (es.len = biA f)
  | .isi a ts, .Call (.Name g _) [x, t] [] _ => decide (g = ("isinstance" : Str)) && freeB L sc g && mE sc a x && (match ts, t with
      | [t1], .Name _ _ => tyE L sc t1 t
      | ts, .Tuple us _ _ => tyEs L sc ts us && decide (ts.length ≤ 1000) && decide (1 ≤ ts.length)
      | _, _ => false)
  | .met m o es, .Call (.Attribute x g ap) [y] [] cp => decide (mtN m = g) && plainO x && mE sc o x && mEs sc es [y] && decide (ap.endLine = cp.line)
  | .comp _ elt g it ifs own, .ListComp e [⟨tg, iter, fs, 0⟩] scope _ => !L.hot && blkC N sc scope own && decide (∀ i ∈ g.slots, i ∈ own.map (·.2)) && mI sc it iter && mG (fun x => scope.names.lookup x == some .cell) (inS scope sc) g tg && mIfs (inS scope sc) ifs fs && mE (inS scope sc) elt e
  | .val i, .Attribute (.Name x _) a _ => decide (N[i]? = some x) && onlyLocB sc x && noSpecial x && decide (a = ("value" : Str))
  | _, _ => false
def mEs (sc : Scope) : Aes → List Expr → Bool
  | .nil, [] => true
  | .cons e es, x :: xs => mE sc e x && mEs sc es xs
  | _, _ => false
def mO (sc : Scope) : Ao → Option Expr → Bool
  | .none, none => true
  | .some e, some x => mE sc e x
  | _, _ => false
def mIfs (sc : Scope) : Ao → List Expr → Bool
  | .none, [] => true
  | .some e, [x] => mE sc e x
  | _, _ => false
def mKs (sc : Scope) : List Str → Aes → List Keyword → Bool
  | [], .nil, [] => true
  | k :: ks, .cons e es, ⟨some n, x, _⟩ :: xs => decide (k = n) && mE sc e x && mKs sc ks es xs
  | _, _, _ => false
def mI (sc : Scope) : Ai → Expr → Bool
  | .ex e, x => mE sc e x
  | .range1 e, .Call (.Name g _) [x] [] _ => decide (g = ("range" : Str)) && freeB L sc g && mE sc e x
  | .range2 a b, .Call (.Name g _) [x, y] [] _ => decide (g = ("range" : Str)) && freeB L sc g && mE sc a x && mE sc b y
  | _, _ => false
def mG (fn : Str → Bool) (sc : Scope) : Ag → Expr → Bool
  | .nm i, .Name x _ => decide (N[i]? = some x) && locB sc x && (fn x || onlyLocB sc x)
  | .tp gs, .Tuple xs _ _ => mGs fn sc gs xs
  | _, _ => false
def mGs (fn : Str → Bool) (sc : Scope) : Ags → List Expr → Bool
  | .nil, [] => true
  | .cons g gs, x :: xs => mG fn sc g x && mGs fn sc gs xs
  | _, _ => false
end
end
end Mx


set_option Elab.async false
set_option linter.all false
set_option maxRecDepth 100000
set_option maxHeartbeats 2000000
/-! What the small language does is what the layer's readings ask. -/
namespace Mx
open PySem PySem.Spec PyProof.Rows L2

/-- from one state to a later one -/
structure Nx (K : Wr) (Z : List Addr) (G : Hp) (ι : List Addr) (H : Hp) (G' : Hp) (ι' : List Addr) (h' : MH) (H' : Hp) : Prop where
  same : Same G G'
  pre : Pre ι ι'
  hr : HR K Z G' ι' h' H'
  zz : ∀ z ∈ Z, H' z = H z
section
variable {K : Wr} {Z : List Addr} {G G1 G2 : Hp} {ι ι1 ι2 : List Addr} {h h1 h2 : MH} {H H1 H2 : Hp} {α β γ δ : Type} {exc : List Str}
theorem Nx.refl (R : HR K Z G ι h H) : Nx K Z G ι H G ι h H := ⟨Same.refl _, Pre.refl _, R, fun _ _ => rfl⟩
theorem Nx.trans (a : Nx K Z G ι H G1 ι1 h1 H1) (b : Nx K Z G1 ι1 H1 G2 ι2 h2 H2) : Nx K Z G ι H G2 ι2 h2 H2 :=
  ⟨a.same.trans b.same, a.pre.trans b.pre, b.hr, fun z hz => (b.zz z hz).trans (a.zz z hz)⟩

/-- what is wanted behind a run, of a result that stands for one of the layer's -/
def RP (exc : List Str) (K : Wr) (R : Hp → List Addr → α → β → Prop) (Z : List Addr) (G : Hp) (ι : List Addr) (H : Hp) (r : Res α) (Q : β → Hp → Prop) (E : XK) : Prop := match r with
  | .ok a h' => ∀ G' ι' H' b, Nx K Z G ι H G' ι' h' H' → R G' ι' a b → Q b H'
  | .exn c v h' => c ∈ exc ∧ ∀ G' ι' H' C dd x, Nx K Z G ι H G' ι' h' H' → K.mg c = some (.ref C) → G' dd = some (.xd [(("value" : Str), x)]) → RV K G' ι' v x → E (.ref C) (some dd) H'
  | .stuck => False
variable {R : Hp → List Addr → α → β → Prop} {R' : Hp → List Addr → γ → δ → Prop} {E : XK}
theorem RP.later {r : Res α} {Q : β → Hp → Prop} (p : RP exc K R Z G ι H r Q E) (n : Nx K Z G ι H G1 ι1 h1 H1) : RP exc K R Z G1 ι1 H1 r Q E := by
  cases r with
  | ok a h' => exact fun G' ι' H' b n' q => p G' ι' H' b (n.trans n') q
  | exn c v h' => exact ⟨p.1, fun G' ι' H' C dd x n' a b q => p.2 G' ι' H' C dd x (n.trans n') a b q⟩
  | stuck => exact p
theorem RP.bind {r : Res α} {f : α → MH → Res γ} {Q : δ → Hp → Prop} {Q1 : β → Hp → Prop} (p : RP exc K R' Z G ι H (r.bind f) Q E)
    (k : ∀ a h1 G1 ι1 H1 b, Nx K Z G ι H G1 ι1 h1 H1 → R G1 ι1 a b → RP exc K R' Z G1 ι1 H1 (f a h1) Q E → Q1 b H1) : RP exc K R Z G ι H r Q1 E := by
  cases r with
  | ok a h' => exact fun G' ι' H' b n q => k a h' G' ι' H' b n q (RP.later p n)
  | exn c v h' => exact p
  | stuck => exact p
theorem RP.imp {r : Res α} {Q Q' : β → Hp → Prop} (p : RP exc K R Z G ι H r Q E) (k : ∀ a h1 G1 ι1 H1 b, r = .ok a h1 → Nx K Z G ι H G1 ι1 h1 H1 → R G1 ι1 a b → Q b H1 → Q' b H1) : RP exc K R Z G ι H r Q' E := by
  cases r with
  | ok a h' => exact fun G' ι' H' b n q => k a h' G' ι' H' b rfl n q (p G' ι' H' b n q)
  | exn c v h' => exact p
  | stuck => exact p
theorem RP.ok_here {a : α} {b : β} {Q : β → Hp → Prop} (p : RP exc K R Z G ι H (.ok a h) Q E) (hr : HR K Z G ι h H) (r : R G ι a b) : Q b H := p G ι H b (Nx.refl hr) r
end

/-- the readings' relations -/
abbrev rV (K : Wr) : Hp → List Addr → PV → V → Prop := fun G ι x v => RV K G ι x v
abbrev rVs (K : Wr) : Hp → List Addr → List PV → List V → Prop := fun G ι xs vs => RVs K G ι xs vs
abbrev rId {α : Type} : Hp → List Addr → α → α → Prop := fun _ _ a b => a = b
section
variable (exc : List Str) (K : Wr) (W : WX)
/-- an expression's reading: what its run hands on -/
def tE (r : Env' → MH → Res PV) : TE := fun σ H Q => ∃ Z G ι h ρ, HR K Z G ι h H ∧ SR K G ι ρ σ ∧ RP exc K (rV K) Z G ι H (r ρ h) Q (fun cls d H' => W cls d σ H')
def tA (r : Env' → MH → Res (List PV)) : TA := fun σ H Q => ∃ Z G ι h ρ, HR K Z G ι h H ∧ SR K G ι ρ σ ∧ RP exc K (rVs K) Z G ι H (r ρ h) Q (fun cls d H' => W cls d σ H')
def tT (r : Env' → MH → Res Bool) : TT := fun σ H Q => ∃ Z G ι h ρ, HR K Z G ι h H ∧ SR K G ι ρ σ ∧ RP exc K (rId (α := Bool)) Z G ι H (r ρ h) Q (fun cls d H' => W cls d σ H')
def tOi (r : Env' → MH → Res (Option Int)) : TO := fun σ H Q => ∃ Z G ι h ρ, HR K Z G ι h H ∧ SR K G ι ρ σ ∧ RP exc K (rId (α := Option Int)) Z G ι H (r ρ h) Q (fun cls d H' => W cls d σ H')
end
/-- what a def promises: its body's run -/
def spF (exc : List Str) (K : Wr) (len : Nat) (b : List PV → MH → Res PV) : Sp := fun vs H Q E => ∃ Z G ι h as, as.length = len ∧ HR K Z G ι h H ∧ RVs K G ι as vs ∧ RP exc K (rV K) Z G ι H (b as h) Q E

/-! ### weakening -/
theorem _root_.L2.PE.weak {X : Cx} {e : Expr} {t t' : TE} (h : PE X e t) (k : ∀ σ H Q, t' σ H Q → t σ H Q) : PE X e t' := ⟨fun pins s σ H Q I q => h.run pins s σ H Q I (k σ H Q q)⟩
theorem _root_.L2.PT.weak {X : Cx} {e : Expr} {t t' : TT} (h : PT X e t) (k : ∀ σ H Q, t' σ H Q → t σ H Q) : PT X e t' := ⟨fun pins s σ H Q I q => h.run pins s σ H Q I (k σ H Q q)⟩
theorem _root_.L2.PW.weak {X : Cx} {e : Expr} {t t' : TT} (h : PW X e t) (k : ∀ σ H Q, t' σ H Q → t σ H Q) : PW X e t' := ⟨fun wh pins s σ H Q I q => h.run wh pins s σ H Q I (k σ H Q q)⟩
theorem _root_.L2.PA.weak {X : Cx} {es : List Expr} {t t' : TA} (h : PA X es t) (k : ∀ σ H Q, t' σ H Q → t σ H Q) : PA X es t' := ⟨fun pos pins s σ H Q I q => h.run pos pins s σ H Q I (k σ H Q q)⟩
theorem _root_.L2.PO.weak {X : Cx} {e : Option Expr} {t t' : TO} (h : PO X e t) (k : ∀ σ H Q, t' σ H Q → t σ H Q) : PO X e t' := ⟨fun pins s σ H Q I q => h.run pins s σ H Q I (k σ H Q q)⟩
theorem _root_.L2.PSs.weak {X : Cx} {st : List Stmt} {t t' : TS} (h : PSs X st t) (k : ∀ D σ H, t' D σ H → t D σ H) : PSs X st t' := ⟨fun pins s σ H D I q => h.run pins s σ H D I (k D σ H q)⟩
theorem _root_.L2.PS.weak {X : Cx} {st : Stmt} {t t' : TS} (h : PS X st t) (k : ∀ D σ H, t' D σ H → t D σ H) : PS X st t' := ⟨fun pins s σ H D I q => h.run pins s σ H D I (k D σ H q)⟩
end Mx


set_option Elab.async false
set_option linter.all false
set_option maxRecDepth 100000
set_option maxHeartbeats 2000000
/-! The operators, by values. -/
namespace Mx
open PySem PySem.Spec PyProof.Rows L2

section
variable {X : Cx} {pins : List (Addr × Obj)} {σ : L2.St} {H : Hp} {s : Shared}
/-- a list that is read, as it lies -/
theorem inv_lstR (I : Inv X pins σ H s) {a : Addr} {xs : List V} (h : Rd H a (.lst xs)) : xs.length ≤ sizeLine ∧ ∃ (its : List Value) (n : Nat), Vals xs its ∧ xs.length = its.length ∧ s.heap.get? a = some { cls := .type "list", data := .seq its.toArray n } := by
  obtain ⟨z, its, n, r, e⟩ := h.ok I.hok
  exact ⟨z, its, n, r, r.length, e⟩
def rCatR : R2 := fun x y H Q => ∃ l b xs zs, x = .ref l ∧ y = .ref b ∧ Rd H l (.lst xs) ∧ Rd H b (.lst zs) ∧ xs.length + zs.length ≤ sizeLine ∧ ∀ p, H p = none → Q (.ref p) (upd H p (.lst (xs ++ zs)))
theorem op_catR : OpR X (binaryOp .Add) rCatR := by
  intro pins s σ H x y v u Q I rx ry h
  obtain ⟨l, b, xs, zs, rfl, rfl, hH, hB, hz, q⟩ := h
  cases rx
  cases ry
  obtain ⟨z, its, n, r, hl, e⟩ := inv_lstR I hH
  obtain ⟨z2, its2, n2, r2, hl2, e2⟩ := inv_lstR I hB
  refine PySem.P.add_list e e2 ?_ (by rw [List.size_toArray, List.size_toArray]; omega)
  have ea : its.toArray ++ its2.toArray = (its ++ its2).toArray := by simp
  rw [ea]
  exact ⟨.ref _, _, I.lnew (t' := s.toks) (r.append r2) (by rw [List.length_append]; omega), rfl, q _ I.fresh⟩
def rRepR : R2 := fun x y H Q => ∃ l k xs, x = .ref l ∧ y = .int k ∧ Rd H l (.lst xs) ∧ -(2 ^ 63) ≤ k ∧ k < 2 ^ 63 ∧ xs.length * k.toNat ≤ sizeLine ∧
  ∀ p, H p = none → Q (.ref p) (upd H p (.lst (List.replicate k.toNat xs).flatten))
theorem op_repR : OpR X (binaryOp .Mult) rRepR := by
  intro pins s σ H x y v u Q I rx ry h
  obtain ⟨l, k, xs, rfl, rfl, hH, h1, h2, hz, q⟩ := h
  cases rx
  obtain ⟨t, rfl⟩ := ry
  obtain ⟨z, its, n, r, hl, e⟩ := inv_lstR I hH
  have hlen : its.toArray.size * k.toNat ≤ sizeLine := by rw [List.size_toArray, ← hl]; exact hz
  have hcap : ¬ its.toArray.size * k.toNat > (2 ^ 63 - 1) / 8 := by
    have : (sizeLine : Nat) ≤ (2 ^ 63 - 1) / 8 := by decide
    omega
  have hfit : ¬ (!Builtin.List.listFitsIndex k) = true := by
    rw [fitsIndex_both h1 h2]
    exact Bool.false_ne_true
  have hlong : ¬ Builtin.List.listTooLong (its.toArray.size * k.toNat) = true := by
    rw [notLongL hlen]
    exact Bool.false_ne_true
  have hnew : List.foldl (fun x1 x2 => x1 ++ x2) #[] (List.replicate (if its.toArray.isEmpty = true then 0 else k.toNat) its.toArray) = (List.replicate k.toNat its).flatten.toArray := by
    have f0 : ∀ m : Nat, List.foldl (fun x1 x2 => x1 ++ x2) #[] (List.replicate m its.toArray) = (List.replicate m its).flatten.toArray := fun m => by
      have := foldl_rep its m []
      rw [List.nil_append] at this
      exact this
    rw [f0]
    cases its with
    | nil => simp
    | cons a r' => rw [if_neg (by simp)]
  refine wpAny_binaryOp_repeat_ref (T := "list") (U := "int") (by decide) ⟨_, e, rfl⟩ (fun s' => typeIs_int s' k t) noFill_list_mul F.fills_int_mul F.slot_int_rmul repeat_list F.slot_int_index.lookup
    (call_meets F.slot_int_rmul (typeIs_int s k t) F.entry_int_rmul (F.args_int_rmul_2 _ _) (int___rmul___int_list k t l its.toArray n)
      ⟨e, rfl, ⟨_, e, rfl⟩, call_meets F.slot_list_mul ⟨_, e, rfl⟩ F.entry_list_mul (F.args_list_mul_2 _ _) (AutoListH.list___mul___list_int_3 l its.toArray n k t hfit hcap hlong) ⟨e, ?_⟩⟩)
  rw [hnew]
  exact ⟨.ref _, _, I.lnew (t' := s.toks) (r.rep k.toNat) (by rw [PyProof.Rows.lm_len_rep_flat, Nat.mul_comm]; exact hz), rfl, q _ I.fresh⟩
end

section
variable {K : Wr} {Z : List Addr} {G : Hp} {ι : List Addr} {h : MH} {H : Hp} {exc : List Str} {E : XK} {Q : VK}
/-- the items of a sequence, in the layer's heap -/
inductive SqV (K : Wr) (G : Hp) (ι : List Addr) (H : Hp) (xs : List PV) : PV → V → Prop
  | tup {a : Addr} {ys : List PV} {vs : List V} : ys = xs → SqT K.K H a vs → RVs K G ι xs vs → SqV K G ι H xs (.tup ys) (.ref a)
  | lst {p : PV} {a : Addr} {vs : List V} : (∀ ys, p ≠ .tup ys) → Rd H a (.lst vs) → RVs K G ι xs vs → SqV K G ι H xs p (.ref a)
theorem rd_same {H H' : Hp} {a : Addr} {u : HO} (e : Same H H') (r : Rd H a u) : Rd H' a u := r.elim (fun q => .inl (e _ _ q)) fun ⟨o, q⟩ => .inr ⟨o, e _ _ q⟩
theorem items_of (R : HR K Z G ι h H) {p : PV} {v : V} {xs : List PV} (r : RV K G ι p v) (e : items h p = some xs) : SqV K G ι H xs p v := by
  cases r with
  | tup hs rs => cases e; exact .tup rfl (Same.seqT R.sub hs) rs
  | lst hs rs => cases e; exact .lst (fun _ z => nomatch z) (rd_same R.sub hs) rs
  | @ref n a hn =>
    unfold items at e
    obtain ⟨o, ho, ro⟩ := R.at hn
    simp only [ho] at e
    cases o with
    | lst ys =>
      cases e
      generalize hH : H a = u at ro
      cases ro with
      | lst rs => exact .lst (fun _ z => nomatch z) (.inl hH) rs
    | dic _ _ => cases e
    | ins _ _ => cases e
  | non => cases e
  | bl _ => cases e
  | int _ => cases e
  | str _ => cases e
  | dic _ _ _ => cases e
  | exn _ _ _ _ => cases e
theorem SqV.sq {xs : List PV} {p : PV} {v : V} (q : SqV K G ι H xs p v) : ∃ a vs, v = .ref a ∧ (SqL K.K H a vs ∨ SqT K.K H a vs) ∧ RVs K G ι xs vs := by
  cases q with
  | tup _ h r => exact ⟨_, _, rfl, .inr h, r⟩
  | lst _ h r => exact ⟨_, _, rfl, .inl (.inl h), r⟩
/-- a new list is told -/
theorem mk_lst (R : HR K Z G ι h H) {r : Bool} {xs : List PV} {vs : List V} (rs : RVs K G ι xs vs) (p : RP exc K (rV K) Z G ι H (mkLst r xs h) Q E) : ∀ a, H a = none → Q (.ref a) (upd H a (.lst vs)) := by
  intro a ha
  have ga := R.gnone ha
  have hz : ∀ z ∈ Z, upd H a (.lst vs) z = H z := fun z hz => upd_ne fun e => R.freshZ ha (e ▸ hz)
  cases r with
  | true =>
    have p' : RP exc K (rV K) Z G ι H (.ok (.ref h.length) (h ++ [.lst xs])) Q E := p
    refine p' G (ι ++ [a]) _ _ ⟨Same.refl _, Pre.append _ _, R.alloc ha (.lst (rs.mono (Same.refl _) (Pre.append _ _))), hz⟩ (.ref ?_)
    rw [← R.len]; simp
  | false =>
    have p' : RP exc K (rV K) Z G ι H (.ok (.lst xs) h) Q E := p
    exact p' (upd G a (.lst vs)) ι _ _ ⟨same_upd ga, Pre.refl _, R.laid ha, hz⟩ (.lst (.inl upd_same) (rs.mono (same_upd ga) (Pre.refl _)))
/-- a new tuple -/
theorem mk_tup (R : HR K Z G ι h H) {xs : List PV} {vs : List V} (rs : RVs K G ι xs vs) (p : RP exc K (rV K) Z G ι H (.ok (.tup xs) h) Q E) : ∀ a, H a = none → Q (.ref a) (upd H a (.tup vs)) := by
  intro a ha
  have ga := R.gnone ha
  have hz : ∀ z ∈ Z, upd H a (.tup vs) z = H z := fun z hz => upd_ne fun e => R.freshZ ha (e ▸ hz)
  exact p (upd G a (.tup vs)) ι _ _ ⟨same_upd ga, Pre.refl _, R.laid ha, hz⟩ (.tup (.inl (.inl upd_same)) (rs.mono (same_upd ga) (Pre.refl _)))

/-- what the layer's rule for an operator must give, for a function of the small language -/
def OpS (exc : List Str) (K : Wr) (f : PV → PV → MH → Res PV) (r : R2) : Prop :=
  ∀ (Z : List Addr) (G : Hp) (ι : List Addr) (h : MH) (H : Hp) (x y : PV) (vx vy : V) (Q : VK) (E : XK), HR K Z G ι h H → RV K G ι x vx → RV K G ι y vy → RP exc K (rV K) Z G ι H (f x y h) Q E → r vx vy H Q
theorem Rd.len {X : Cx} {pins : List (Addr × Obj)} {σ : L2.St} {s : Shared} (I : Inv X pins σ H s) {a : Addr} {xs : List V} (h : Rd H a (.lst xs)) : xs.length ≤ sizeLine := (inv_lstR I h).1
def rAddAll (K : PySem.W.Frag) : R2 := fun x y H Q => rI0 (fun i j => .int (i + j)) x y H Q ∨ (∃ i j, x = .str i ∧ y = .str j ∧ i.length + j.length ≤ sizeLine ∧ Q (.str (i ++ j)) H) ∨ rCatA K x y H Q ∨ rCatR x y H Q
theorem op_addAll {X : Cx} : OpR X (binaryOp .Add) (rAddAll X.K) := op_add.or (op_add_str.or (op_catA.or op_catR))
theorem RVs.isNil {xs : List PV} {vs : List V} (r : RVs K G ι xs vs) : vs = [] ↔ xs = [] := by
  cases r with
  | nil => simp
  | cons _ _ => simp
/-- a list's items, in the layer's heap -/
theorem litems_of (R : HR K Z G ι h H) {p : PV} {v : V} {xs : List PV} (r : RV K G ι p v) (e : litems h p = some xs) : ∃ a vs, v = .ref a ∧ Rd H a (.lst vs) ∧ RVs K G ι xs vs := by
  cases r with
  | lst hs rs => cases e; exact ⟨_, _, rfl, rd_same R.sub hs, rs⟩
  | @ref n a hn =>
    unfold litems at e
    obtain ⟨o, ho, ro⟩ := R.at hn
    simp only [ho] at e
    cases o with
    | lst ys =>
      cases e
      generalize hH : H a = u at ro
      cases ro with
      | lst rs => exact ⟨_, _, rfl, .inl hH, rs⟩
    | dic _ _ => cases e
    | ins _ _ => cases e
  | _ => cases e
theorem ops_add {r : Bool} : OpS exc K (binop .add r) (rAddAll K.K) := by
  intro Z G ι h H x y vx vy Q E R rx ry p
  replace p : RP exc K (rV K) Z G ι H (addop r x y h) Q E := p
  unfold addop at p
  split at p
  · rename_i i j
    rw [rx.int_inv, ry.int_inv]
    exact .inl ⟨i, j, rfl, rfl, RP.ok_here p R (.int _)⟩
  · rename_i i j
    rw [rx.str_inv, ry.str_inv]
    split at p
    · rename_i hz
      exact .inr (.inl ⟨i, j, rfl, rfl, hz, RP.ok_here p R (.str _)⟩)
    · exact p.elim
  · rename_i i j
    split at p
    · rename_i hz
      obtain ⟨a, vs, rfl, h1, r1⟩ := rx.tup_inv
      obtain ⟨b, ws, rfl, h2, r2⟩ := ry.tup_inv
      refine .inr (.inr (.inl ⟨a, b, vs, ws, rfl, rfl, Same.seqT R.sub h1, Same.seqT R.sub h2, by rw [← r1.length, ← r2.length]; exact hz, fun e => ?_, fun _ e => ?_, fun _ _ => mk_tup R (r1.append r2) p⟩))
      · rw [r1.isNil] at e
        subst e
        exact RP.ok_here p R (.tup h2 r2)
      · rw [r2.isNil] at e
        subst e
        rw [List.append_nil] at p
        exact RP.ok_here p R (.tup h1 r1)
    · exact p.elim
  · split at p
    · rename_i e1 e2
      split at p
      · rename_i hz
        obtain ⟨a, vs, rfl, h1, r1⟩ := litems_of R rx e1
        obtain ⟨b, ws, rfl, h2, r2⟩ := litems_of R ry e2
        exact .inr (.inr (.inr ⟨a, b, vs, ws, rfl, rfl, h1, h2, by rw [← r1.length, ← r2.length]; exact hz, mk_lst R (r1.append r2) p⟩))
      · exact p.elim
    · exact p.elim
theorem ops_sub {r : Bool} : OpS exc K (binop .sub r) (rI0 fun i j => .int (i - j)) := by
  intro Z G ι h H x y vx vy Q E R rx ry p
  replace p : RP exc K (rV K) Z G ι H (subop x y h) Q E := p
  unfold subop at p
  split at p
  · rename_i i j
    rw [rx.int_inv, ry.int_inv]
    exact ⟨i, j, rfl, rfl, RP.ok_here p R (.int _)⟩
  · exact p.elim
def rMulAll : R2 := fun x y H Q => rI CMulW (fun i j => .int (i * j)) x y H Q ∨ rRepR x y H Q
theorem op_mulAll {X : Cx} : OpR X (binaryOp .Mult) rMulAll := op_mulW.or op_repR
theorem ops_mul {r : Bool} : OpS exc K (binop .mul r) rMulAll := by
  intro Z G ι h H x y vx vy Q E R rx ry p
  replace p : RP exc K (rV K) Z G ι H (mulop r x y h) Q E := p
  unfold mulop at p
  split at p
  · rename_i i j
    rw [rx.int_inv, ry.int_inv]
    split at p
    · rename_i hf
      exact .inl ⟨i, j, rfl, rfl, hf, RP.ok_here p R (.int _)⟩
    · exact p.elim
  · rename_i k _
    rw [ry.int_inv]
    split at p
    · rename_i e1
      split at p
      · rename_i hz
        obtain ⟨a, vs, rfl, h1, r1⟩ := litems_of R rx e1
        exact .inr ⟨a, k, vs, rfl, rfl, h1, hz.1, hz.2.1, by rw [← r1.length]; exact hz.2.2, mk_lst R (r1.rep _) p⟩
      · exact p.elim
    · exact p.elim
  · exact p.elim
def CDivF (_ j : Int) : Prop := j ≠ 0 ∧ j.natAbs.log2 < 9000
theorem op_fdivF {X : Cx} : OpR X (binaryOp .FloorDiv) (rI CDivF fun i j => .int (i.fdiv j)) := opI fun i j _ _ _ _ _ hc q => floordiv_int hc.1 q (.inl (PyProof.noPylong_of_log2 hc.2))
theorem ops_div {r : Bool} : OpS exc K (binop .fdiv r) (rI CDivF fun i j => .int (i.fdiv j)) := by
  intro Z G ι h H x y vx vy Q E R rx ry p
  replace p : RP exc K (rV K) Z G ι H (divop x y h) Q E := p
  unfold divop at p
  split at p
  · rename_i i j
    rw [rx.int_inv, ry.int_inv]
    split at p
    · rename_i hf
      exact ⟨i, j, rfl, rfl, hf, RP.ok_here p R (.int _)⟩
    · exact p.elim
  · exact p.elim
theorem ops_mod {r : Bool} : OpS exc K (binop .mod r) (rI (fun _ j => j ≠ 0) fun i j => .int (i.fmod j)) := by
  intro Z G ι h H x y vx vy Q E R rx ry p
  replace p : RP exc K (rV K) Z G ι H (modop x y h) Q E := p
  unfold modop at p
  split at p
  · rename_i i j
    rw [rx.int_inv, ry.int_inv]
    split at p
    · rename_i hf
      exact ⟨i, j, rfl, rfl, hf, RP.ok_here p R (.int _)⟩
    · exact p.elim
  · exact p.elim
theorem ops_pow {r : Bool} : OpS exc K (binop .pow r) (rI CPow fun i j => .int (i ^ j.toNat)) := by
  intro Z G ι h H x y vx vy Q E R rx ry p
  replace p : RP exc K (rV K) Z G ι H (powop x y h) Q E := p
  unfold powop at p
  split at p
  · rename_i i j
    rw [rx.int_inv, ry.int_inv]
    split at p
    · rename_i hf
      exact ⟨i, j, rfl, rfl, hf, RP.ok_here p R (.int _)⟩
    · exact p.elim
  · exact p.elim

/-! ### comparisons -/
theorem scal_of {x y : PV} {vx vy : V} (rx : RV K G ι x vx) (ry : RV K G ι y vy) (hs : scalP x y = true) : scal vx vy = true ∧ decide (vx = vy) = eqF x y := by
  cases rx <;> cases ry <;> first | (exact absurd (show false = true from hs) Bool.false_ne_true) | (refine ⟨rfl, ?_⟩; first | rfl | exact dec_int | exact dec_bl | exact dec_str | simp [eqF])
mutual
theorem dp_of {rd : Nat → Option PyData} (hs : Same G H) (hrd : ∀ n a d, ι[n]? = some a → rd n = some d → Dp K.K H (.ref a) d) : ∀ {x : PV} {v : V} {d : PyData}, RV K G ι x v → toD rd x = some d → Dp K.K H v d
  | _, _, _, .non, e => by cases e; exact .non
  | _, _, _, .bl b, e => by cases e; exact .bl b
  | _, _, _, .int i, e => by cases e; exact .int i
  | _, _, _, .str x, e => by cases e; exact .str x
  | _, _, _, .tup (xs := xs) h1 r, e => by
    unfold toD at e
    cases q : toDs rd xs with
    | none => rw [q] at e; cases e
    | some ds => rw [q] at e; cases e; exact .tup (Same.seqT hs h1) (dps_of hs hrd r q)
  | _, _, _, .lst (xs := xs) h1 r, e => by
    unfold toD at e
    cases q : toDs rd xs with
    | none => rw [q] at e; cases e
    | some ds => rw [q] at e; cases e; exact .lst (.inl (rd_same hs h1)) (dps_of hs hrd r q)
  | _, _, _, .dic _ _ _, e => by cases e
  | _, _, _, .ref h1, e => hrd _ _ _ h1 e
  | _, _, _, .exn _ _ _ _, e => by cases e
theorem dps_of {rd : Nat → Option PyData} (hs : Same G H) (hrd : ∀ n a d, ι[n]? = some a → rd n = some d → Dp K.K H (.ref a) d) : ∀ {xs : List PV} {vs : List V} {ds : List PyData}, RVs K G ι xs vs → toDs rd xs = some ds → DpAll K.K H vs ds
  | _, _, _, .nil, e => by cases e; exact .nil
  | _, _, _, .cons (x := x) (xs := xs) r t, e => by
    unfold toDs at e
    split at e
    · rename_i q1 q2
      cases e
      exact .cons (dp_of hs hrd r q1) (dps_of hs hrd t q2)
    · cases e
end
theorem rd0_ok (R : HR K Z G ι h H) : ∀ n a d, ι[n]? = some a → rd0 h n = some d → Dp K.K H (.ref a) d := by
  intro n a d hn e
  unfold rd0 at e
  obtain ⟨o, ho, ro⟩ := R.at hn
  rw [ho] at e
  cases o with
  | lst ys =>
    generalize hH : H a = u at ro
    cases ro with
    | lst rs =>
      simp only at e
      cases q : toDs (fun _ => none) ys with
      | none => rw [q] at e; cases e
      | some ds =>
        rw [q] at e; cases e
        exact .lst (.inl (.inl hH)) (dps_of R.sub (fun _ _ _ _ z => by cases z) rs q)
  | dic _ _ => cases e
  | ins _ _ => cases e
theorem rd1_ok (R : HR K Z G ι h H) : ∀ n a d, ι[n]? = some a → rd1 h n = some d → Dp K.K H (.ref a) d := by
  intro n a d hn e
  unfold rd1 at e
  obtain ⟨o, ho, ro⟩ := R.at hn
  rw [ho] at e
  cases o with
  | lst ys =>
    generalize hH : H a = u at ro
    cases ro with
    | lst rs =>
      simp only at e
      cases q : toDs (rd0 h) ys with
      | none => rw [q] at e; cases e
      | some ds =>
        rw [q] at e; cases e
        exact .lst (.inl (.inl hH)) (dps_of R.sub (rd0_ok R) rs q)
  | dic _ _ => cases e
  | ins _ _ => cases e
def rEqAll (K : PySem.W.Frag) : R2 := fun x y H Q => rEq x y H Q ∨ rEqD K x y H Q
def rNeAll (K : PySem.W.Frag) : R2 := fun x y H Q => rNe x y H Q ∨ rNeD K x y H Q
theorem op_eqAll {X : Cx} (hu : X.A.units + 64 < cLine) : OpR X (compareOp .Eq) (rEqAll X.K) := op_eq.or (op_eqD hu)
theorem op_neAll {X : Cx} (hu : X.A.units + 64 < cLine) : OpR X (compareOp .NotEq) (rNeAll X.K) := op_ne.or (op_neD hu)
/-- a comparison as a function of the small language -/
def cmpR (op : Co) : PV → PV → MH → Res PV := fun x y h => ofB (cmpop op x y h) h
theorem ops_eq : OpS exc K (cmpR .eq) (rEqAll K.K) := by
  intro Z G ι h H x y vx vy Q E R rx ry p
  replace p : RP exc K (rV K) Z G ι H (ofB (peq h x y) h) Q E := p
  unfold peq at p
  split at p
  · rename_i hs
    obtain ⟨h1, h2⟩ := scal_of rx ry hs
    exact .inl ⟨h1, by rw [h2]; exact RP.ok_here p R (.bl _)⟩
  · unfold peqD at p
    split at p
    · rename_i d e q1 q2
      split at p
      · rename_i hz
        rw [Bool.and_eq_true] at hz
        exact .inr ⟨d, e, dp_of R.sub (rd1_ok R) rx q1, dp_of R.sub (rd1_ok R) ry q2, hz.1, hz.2, RP.ok_here p R (.bl _)⟩
      · exact p.elim
    · exact p.elim
theorem ops_ne : OpS exc K (cmpR .ne) (rNeAll K.K) := by
  intro Z G ι h H x y vx vy Q E R rx ry p
  replace p : RP exc K (rV K) Z G ι H (ofB ((peq h x y).map (!·)) h) Q E := p
  unfold peq at p
  split at p
  · rename_i hs
    obtain ⟨h1, h2⟩ := scal_of rx ry hs
    exact .inl ⟨h1, by rw [h2]; exact RP.ok_here p R (.bl _)⟩
  · unfold peqD at p
    split at p
    · rename_i d e q1 q2
      split at p
      · rename_i hz
        rw [Bool.and_eq_true] at hz
        exact .inr ⟨d, e, dp_of R.sub (rd1_ok R) rx q1, dp_of R.sub (rd1_ok R) ry q2, hz.1, hz.2, RP.ok_here p R (.bl _)⟩
      · exact p.elim
    · exact p.elim
def rLtAll : R2 := fun x y H Q => rI0 (fun i j => .bl (decide (i < j))) x y H Q ∨ ∃ i j, x = .str i ∧ y = .str j ∧ Q (.bl (decide (i.cps.toList < j.cps.toList))) H
def rLeAll : R2 := fun x y H Q => rI0 (fun i j => .bl (decide (i ≤ j))) x y H Q ∨ ∃ i j, x = .str i ∧ y = .str j ∧ Q (.bl (!decide (j.cps.toList < i.cps.toList))) H
def rGtAll : R2 := fun x y H Q => rI0 (fun i j => .bl (decide (j < i))) x y H Q ∨ ∃ i j, x = .str i ∧ y = .str j ∧ Q (.bl (decide (j.cps.toList < i.cps.toList))) H
def rGeAll : R2 := fun x y H Q => rI0 (fun i j => .bl (decide (j ≤ i))) x y H Q ∨ ∃ i j, x = .str i ∧ y = .str j ∧ Q (.bl (!decide (i.cps.toList < j.cps.toList))) H
theorem op_ltAll {X : Cx} : OpR X (compareOp .Lt) rLtAll := op_lt.or op_lt_str
theorem op_leAll {X : Cx} : OpR X (compareOp .LtE) rLeAll := op_le.or op_le_str
theorem op_gtAll {X : Cx} : OpR X (compareOp .Gt) rGtAll := op_gt.or op_gt_str
theorem op_geAll {X : Cx} : OpR X (compareOp .GtE) rGeAll := op_ge.or op_ge_str
theorem ops_lt : OpS exc K (cmpR .lt) rLtAll := by
  intro Z G ι h H x y vx vy Q E R rx ry p
  replace p : RP exc K (rV K) Z G ι H (ofB (ltop x y) h) Q E := p
  unfold ltop at p
  split at p
  · rename_i i j
    rw [rx.int_inv, ry.int_inv]
    exact .inl ⟨i, j, rfl, rfl, RP.ok_here p R (.bl _)⟩
  · rename_i i j
    rw [rx.str_inv, ry.str_inv]
    exact .inr ⟨i, j, rfl, rfl, RP.ok_here p R (.bl _)⟩
  · exact p.elim
theorem ops_le : OpS exc K (cmpR .le) rLeAll := by
  intro Z G ι h H x y vx vy Q E R rx ry p
  replace p : RP exc K (rV K) Z G ι H (ofB (leop x y) h) Q E := p
  unfold leop at p
  split at p
  · rename_i i j
    rw [rx.int_inv, ry.int_inv]
    exact .inl ⟨i, j, rfl, rfl, RP.ok_here p R (.bl _)⟩
  · rename_i i j
    rw [rx.str_inv, ry.str_inv]
    exact .inr ⟨i, j, rfl, rfl, RP.ok_here p R (.bl _)⟩
  · exact p.elim
theorem ops_gt : OpS exc K (cmpR .gt) rGtAll := by
  intro Z G ι h H x y vx vy Q E R rx ry p
  replace p : RP exc K (rV K) Z G ι H (ofB (ltop y x) h) Q E := p
  unfold ltop at p
  split at p
  · rename_i i j
    rw [rx.int_inv, ry.int_inv]
    exact .inl ⟨j, i, rfl, rfl, RP.ok_here p R (.bl _)⟩
  · rename_i i j
    rw [rx.str_inv, ry.str_inv]
    exact .inr ⟨j, i, rfl, rfl, RP.ok_here p R (.bl _)⟩
  · exact p.elim
theorem ops_ge : OpS exc K (cmpR .ge) rGeAll := by
  intro Z G ι h H x y vx vy Q E R rx ry p
  replace p : RP exc K (rV K) Z G ι H (ofB (leop y x) h) Q E := p
  unfold leop at p
  split at p
  · rename_i i j
    rw [rx.int_inv, ry.int_inv]
    exact .inl ⟨j, i, rfl, rfl, RP.ok_here p R (.bl _)⟩
  · rename_i i j
    rw [rx.str_inv, ry.str_inv]
    exact .inr ⟨j, i, rfl, rfl, RP.ok_here p R (.bl _)⟩
  · exact p.elim
theorem isNon_of {x : PV} {v : V} (r : RV K G ι x v) : decide (v = .non) = isNon x := by cases r <;> simp [isNon]
theorem isNon_eq {x : PV} {v : V} (r : RV K G ι x v) (e : isNon x = true) : v = .non := by
  cases r <;> first | rfl | cases e
theorem ops_isN : OpS exc K (cmpR .isN) (fun x y H Q => y = .non ∧ Q (.bl (decide (x = .non))) H) := by
  intro Z G ι h H x y vx vy Q E R rx ry p
  replace p : RP exc K (rV K) Z G ι H (ofB (if isNon y then some (isNon x) else none) h) Q E := p
  split at p
  · rename_i hy
    exact ⟨isNon_eq ry hy, by rw [isNon_of rx]; exact RP.ok_here p R (.bl _)⟩
  · exact p.elim
theorem ops_isntN : OpS exc K (cmpR .isntN) (fun x y H Q => y = .non ∧ Q (.bl (!decide (x = .non))) H) := by
  intro Z G ι h H x y vx vy Q E R rx ry p
  replace p : RP exc K (rV K) Z G ι H (ofB (if isNon y then some (!isNon x) else none) h) Q E := p
  split at p
  · rename_i hy
    exact ⟨isNon_eq ry hy, by rw [isNon_of rx]; exact RP.ok_here p R (.bl _)⟩
  · exact p.elim
theorem flat_of {x : PV} {v : V} (r : RV K G ι x v) (e : flat x = true) : flatV v = true := by
  cases r <;> first | rfl | cases e
theorem flats_of : ∀ {xs : List PV} {vs : List V}, RVs K G ι xs vs → xs.all flat = true → vs.all flatV = true
  | _, _, .nil, _ => rfl
  | _, _, .cons r t, e => by
    rw [List.all_cons, Bool.and_eq_true] at e ⊢
    exact ⟨flat_of r e.1, flats_of t e.2⟩
theorem eqF_of {x y : PV} {vx vy : V} (rx : RV K G ι x vx) (ry : RV K G ι y vy) (fx : flat x = true) (fy : flat y = true) : eqV vx vy = eqF x y := by
  cases rx <;> first | cases fx | skip
  all_goals (cases ry <;> first | rfl | cases fy)
theorem inV_of {x : PV} {vx : V} (rx : RV K G ι x vx) (fx : flat x = true) : ∀ {xs : List PV} {vs : List V}, RVs K G ι xs vs → xs.all flat = true → inV vx vs = xs.any fun y => eqF y x
  | _, _, .nil, _ => rfl
  | _, _, .cons r t, e => by
    rw [List.all_cons, Bool.and_eq_true] at e
    unfold inV
    rw [List.any_cons, List.any_cons, eqF_of r rx e.1 fx]
    have := inV_of rx fx t e.2
    unfold inV at this
    rw [this]
def rInAll (K : PySem.W.Frag) : R2 := fun x y H Q => (∃ i j, x = .str i ∧ y = .str j ∧ Q (.bl (!(Builtin.Str.occurrences j i 0 j.length 1).isEmpty)) H) ∨ rIn K false x y H Q
def rNinAll (K : PySem.W.Frag) : R2 := fun x y H Q => (∃ i j, x = .str i ∧ y = .str j ∧ Q (.bl (!(!(Builtin.Str.occurrences j i 0 j.length 1).isEmpty))) H) ∨ rIn K true x y H Q
theorem op_inAll {X : Cx} : OpR X (compareOp .In) (rInAll X.K) := op_in_str.or op_in_seq
theorem op_ninAll {X : Cx} : OpR X (compareOp .NotIn) (rNinAll X.K) := op_notin_str.or op_notIn_seq
theorem ops_in : OpS exc K (cmpR .inn) (rInAll K.K) := by
  intro Z G ι h H x y vx vy Q E R rx ry p
  replace p : RP exc K (rV K) Z G ι H (ofB (inop h x y) h) Q E := p
  unfold inop at p
  split at p
  · rename_i i j
    rw [rx.str_inv, ry.str_inv]
    exact .inl ⟨i, j, rfl, rfl, RP.ok_here p R (.bl _)⟩
  · split at p
    · rename_i xs e1
      unfold inSeq at p
      split at p
      · rename_i hf
        rw [Bool.and_eq_true] at hf
        obtain ⟨a, vs, rfl, hq, rs⟩ := (items_of R ry e1).sq
        refine .inr ⟨a, vs, rfl, hq, flat_of rx hf.1, flats_of rs hf.2, ?_⟩
        show Q (.bl (inV vx vs)) H
        rw [inV_of rx hf.1 rs hf.2]
        exact RP.ok_here p R (.bl _)
      · exact p.elim
    · exact p.elim
theorem ops_nin : OpS exc K (cmpR .nin) (rNinAll K.K) := by
  intro Z G ι h H x y vx vy Q E R rx ry p
  replace p : RP exc K (rV K) Z G ι H (ofB ((inop h x y).map (!·)) h) Q E := p
  unfold inop at p
  split at p
  · rename_i i j
    rw [rx.str_inv, ry.str_inv]
    exact .inl ⟨i, j, rfl, rfl, RP.ok_here p R (.bl _)⟩
  · split at p
    · rename_i xs e1
      unfold inSeq at p
      split at p
      · rename_i hf
        rw [Bool.and_eq_true] at hf
        obtain ⟨a, vs, rfl, hq, rs⟩ := (items_of R ry e1).sq
        refine .inr ⟨a, vs, rfl, hq, flat_of rx hf.1, flats_of rs hf.2, ?_⟩
        show Q (.bl (!inV vx vs)) H
        rw [inV_of rx hf.1 rs hf.2]
        exact RP.ok_here p R (.bl _)
      · exact p.elim
    · exact p.elim

/-! ### subscripts, slices -/
theorem atI_of {xs : List PV} {vs : List V} (r : RVs K G ι xs vs) {k : Int} {y : PV} (e : atI xs k = some y) : ∃ v, atI vs k = some v ∧ RV K G ι y v := by
  unfold atI at e ⊢
  rw [← r.length]
  cases q : ixN xs.length k with
  | none => rw [q] at e; cases e
  | some j =>
    rw [q] at e
    exact r.get e
theorem ops_ix : OpS exc K ixop (rIx K.K) := by
  intro Z G ι h H x y vx vy Q E R rx ry p
  unfold ixop at p
  split at p
  · rename_i i j
    rw [rx.str_inv, ry.int_inv]
    split at p
    · rename_i hz
      split at p
      · rename_i c e
        exact .inr (.inr ⟨_, _, c, rfl, rfl, hz, e, RP.ok_here p R (.str _)⟩)
      · exact p.elim
    · exact p.elim
  · rename_i k _
    rw [ry.int_inv]
    split at p
    · rename_i xs e1
      split at p
      · rename_i y e2
        cases items_of R rx e1 with
        | tup e hq rs =>
          subst e
          obtain ⟨v, e3, rv⟩ := atI_of rs e2
          exact .inr (.inl ⟨_, _, _, v, rfl, rfl, hq, e3, RP.ok_here p R rv⟩)
        | lst _ hq rs =>
          obtain ⟨v, e3, rv⟩ := atI_of rs e2
          exact .inl ⟨_, _, _, v, rfl, rfl, .inl hq, e3, RP.ok_here p R rv⟩
      · exact p.elim
    · exact p.elim
  · exact p.elim
theorem cut_of {xs : List PV} {vs : List V} (r : RVs K G ι xs vs) (lo hi : Option Int) : RVs K G ι (cutP xs lo hi) (cutV vs lo hi) := by
  unfold cutP cutV
  rw [← r.length]
  exact (r.drop _).take _
def rSlAll (K : PySem.W.Frag) : V → Option Int → Option Int → Hp → VK → Prop := fun x lo hi H Q => rSlA K x lo hi H Q ∨ rSlL K x lo hi H Q
theorem sl_all {X : Cx} : SlR X (rSlAll X.K) := sl_tupA.or sl_list
theorem ops_sl {r : Bool} (R : HR K Z G ι h H) {x : PV} {vx : V} {lo hi : Option Int} (rx : RV K G ι x vx) (p : RP exc K (rV K) Z G ι H (slop r x lo hi h) Q E) : rSlAll K.K vx lo hi H Q := by
  unfold slop at p
  split at p
  · obtain ⟨a, vs, rfl, h1, r1⟩ := rx.tup_inv
    refine .inl ⟨a, vs, rfl, Same.seqT R.sub h1, fun e => ?_, fun _ => mk_tup R (cut_of r1 _ _) p⟩
    have ec : ∀ {ys : List PV}, HT.sIx ys.length 0 lo = 0 ∧ HT.sIx ys.length ys.length hi = ys.length → cutP ys lo hi = ys := fun {ys} e => by
      unfold cutP
      rw [e.1, e.2, List.drop_zero, Nat.sub_zero, List.take_length]
    rw [← r1.length] at e
    rw [ec e] at p
    exact RP.ok_here p R (.tup h1 r1)
  · split at p
    · rename_i xs e1
      obtain ⟨a, vs, rfl, h1, r1⟩ := litems_of R rx e1
      exact .inr ⟨a, vs, rfl, .inl h1, mk_lst R (cut_of r1 _ _) p⟩
    · exact p.elim

/-! ### built-ins -/
theorem allB_of : ∀ {xs : List PV} {vs : List V} {bs : List Bool}, RVs K G ι xs vs → allB xs = some bs → vs = bs.map V.bl
  | _, _, _, .nil, e => by cases e; rfl
  | _, _, _, .cons (x := x) (xs := xs) r t, e => by
    cases x with
    | bl b =>
      unfold allB at e
      cases q : allB xs with
      | none => rw [q] at e; cases e
      | some cs =>
        rw [q] at e; cases e
        rw [r.bl_inv, allB_of t q]; rfl
    | _ => cases e
/-- what the layer's rule for a built-in must give -/
def CallS (exc : List Str) (K : Wr) (f : List PV → MH → Res PV) (r : List V → Hp → VK → Prop) : Prop :=
  ∀ (Z : List Addr) (G : Hp) (ι : List Addr) (h : MH) (H : Hp) (xs : List PV) (vs : List V) (Q : VK) (E : XK), HR K Z G ι h H → RVs K G ι xs vs → RP exc K (rV K) Z G ι H (f xs h) Q E → r vs H Q
theorem one_of {xs : List PV} {vs : List V} {f : PV → MH → Res PV} (r : RVs K G ι xs vs) (p : RP exc K (rV K) Z G ι H (match (motive := List PV → Res PV) xs with | [a] => f a h | _ => .stuck) Q E) : ∃ x v, xs = [x] ∧ vs = [v] ∧ RV K G ι x v ∧ RP exc K (rV K) Z G ι H (f x h) Q E := by
  cases r with
  | nil => exact p.elim
  | cons r t =>
    cases t with
    | nil => exact ⟨_, _, rfl, rfl, r, p⟩
    | cons _ _ => exact p.elim
theorem two_of {xs : List PV} {vs : List V} {f : PV → PV → MH → Res PV} (r : RVs K G ι xs vs) (p : RP exc K (rV K) Z G ι H (match (motive := List PV → Res PV) xs with | [a, b] => f a b h | _ => .stuck) Q E) : ∃ x y v w, xs = [x, y] ∧ vs = [v, w] ∧ RV K G ι x v ∧ RV K G ι y w ∧ RP exc K (rV K) Z G ι H (f x y h) Q E := by
  cases r with
  | nil => exact p.elim
  | cons r t =>
    cases t with
    | nil => exact p.elim
    | cons r2 t2 =>
      cases t2 with
      | nil => exact ⟨_, _, _, _, rfl, rfl, r, r2, p⟩
      | cons _ _ => exact p.elim
def rLenAll (K : PySem.W.Frag) : List V → Hp → VK → Prop := fun xs H Q => (∃ z, xs = [.str z] ∧ z.length ≤ sizeLine ∧ Q (.int z.length) H) ∨ ∃ p ys, xs = [.ref p] ∧ (SqL K H p ys ∨ SqT K H p ys) ∧ Q (.int ys.length) H
theorem call_lenAll {X : Cx} : CallR X (.builtin "len") (rLenAll X.K) := call_len_str.or call_len_seq
theorem calls_len {r : Bool} : CallS exc K (bltop .len r) (rLenAll K.K) := by
  intro Z G ι h H xs vs Q E R rs p
  obtain ⟨x, v, rfl, rfl, rx, p2⟩ := one_of rs p
  clear p
  have p := p2
  clear p2
  unfold lenop at p
  split at p
  · rename_i z
    rw [rx.str_inv]
    split at p
    · rename_i hz
      exact .inl ⟨z, rfl, hz, RP.ok_here p R (.int _)⟩
    · exact p.elim
  · split at p
    · rename_i ys e1
      obtain ⟨a, vs, rfl, hq, rs⟩ := (items_of R rx e1).sq
      refine .inr ⟨a, vs, rfl, hq, ?_⟩
      rw [← rs.length]
      exact RP.ok_here p R (.int _)
    · exact p.elim
theorem calls_int1 {f : Int → Int} {x : PV} {v : V} (R : HR K Z G ι h H) (rx : RV K G ι x v) (p : RP exc K (rV K) Z G ι H (int1 f x h) Q E) : ∃ i, v = .int i ∧ Q (.int (f i)) H := by
  unfold int1 at p
  split at p
  · rename_i i
    exact ⟨i, rx.int_inv, RP.ok_here p R (.int _)⟩
  · exact p.elim
theorem calls_int2 {f : Int → Int → Int} {x y : PV} {v w : V} (R : HR K Z G ι h H) (rx : RV K G ι x v) (ry : RV K G ι y w) (p : RP exc K (rV K) Z G ι H (int2 f x y h) Q E) : ∃ i j, v = .int i ∧ w = .int j ∧ Q (.int (f i j)) H := by
  unfold int2 at p
  split at p
  · rename_i i j
    exact ⟨i, j, rx.int_inv, ry.int_inv, RP.ok_here p R (.int _)⟩
  · exact p.elim
theorem calls_abs {r : Bool} : CallS exc K (bltop .abs r) (fun xs H Q => ∃ i, xs = [.int i] ∧ Q (.int (if i < 0 then -i else i)) H) := by
  intro Z G ι h H xs vs Q E R rs p
  obtain ⟨x, v, rfl, rfl, rx, p2⟩ := one_of rs p
  clear p
  have p := p2
  clear p2
  obtain ⟨i, rfl, q⟩ := calls_int1 R rx p
  exact ⟨i, rfl, q⟩
theorem calls_min {r : Bool} : CallS exc K (bltop .min r) (fun xs H Q => ∃ i j, xs = [.int i, .int j] ∧ Q (.int (if j < i then j else i)) H) := by
  intro Z G ι h H xs vs Q E R rs p
  obtain ⟨x, y, v, w, rfl, rfl, rx, ry, p2⟩ := two_of rs p
  clear p
  have p := p2
  clear p2
  obtain ⟨i, j, rfl, rfl, q⟩ := calls_int2 R rx ry p
  exact ⟨i, j, rfl, q⟩
theorem calls_max {r : Bool} : CallS exc K (bltop .max r) (fun xs H Q => ∃ i j, xs = [.int i, .int j] ∧ Q (.int (if j > i then j else i)) H) := by
  intro Z G ι h H xs vs Q E R rs p
  obtain ⟨x, y, v, w, rfl, rfl, rx, ry, p2⟩ := two_of rs p
  clear p
  have p := p2
  clear p2
  obtain ⟨i, j, rfl, rfl, q⟩ := calls_int2 R rx ry p
  exact ⟨i, j, rfl, q⟩
theorem calls_gcd {r : Bool} : CallS exc K (bltop .gcd r) rGcd := by
  intro Z G ι h H xs vs Q E R rs p
  obtain ⟨x, y, v, w, rfl, rfl, rx, ry, p2⟩ := two_of rs p
  clear p
  have p := p2
  clear p2
  obtain ⟨i, j, rfl, rfl, q⟩ := calls_int2 R rx ry p
  exact ⟨i, j, rfl, q⟩
theorem calls_int {r : Bool} : CallS exc K (bltop .int r) (fun xs H Q => (∃ i, xs = [.int i] ∧ Q (.int i) H) ∨ ∃ k, xs = [.bl k] ∧ Q (.int (if k then 1 else 0)) H) := by
  intro Z G ι h H xs vs Q E R rs p
  obtain ⟨x, v, rfl, rfl, rx, p2⟩ := one_of rs p
  clear p
  have p := p2
  clear p2
  unfold intop at p
  split at p
  · rename_i i
    rw [rx.int_inv]
    exact .inl ⟨i, rfl, RP.ok_here p R (.int _)⟩
  · rename_i b
    rw [rx.bl_inv]
    exact .inr ⟨b, rfl, RP.ok_here p R (.int _)⟩
  · exact p.elim
theorem calls_tuple {r : Bool} : CallS exc K (bltop .tuple r) (fun xs H Q => ∃ p ys, xs = [.ref p] ∧ ((SqL K.K H p ys ∧ ∀ l, H l = none → Q (.ref l) (upd H l (.tup ys))) ∨ (SqT K.K H p ys ∧ Q (.ref p) H))) := by
  intro Z G ι h H xs vs Q E R rs p
  obtain ⟨x, v, rfl, rfl, rx, p2⟩ := one_of rs p
  clear p
  have p := p2
  clear p2
  unfold tupop at p
  split at p
  · rename_i ys e1
    have hi := items_of R rx e1
    cases hi with
    | tup e hq rs' =>
      subst e
      exact ⟨_, _, rfl, .inr ⟨hq, RP.ok_here p R rx⟩⟩
    | lst _ hq rs' => exact ⟨_, _, rfl, .inl ⟨.inl hq, mk_tup R rs' p⟩⟩
  · exact p.elim
theorem calls_list {r : Bool} : CallS exc K (bltop .list r) (fun xs H Q => ∃ p ys, xs = [.ref p] ∧ (SqL K.K H p ys ∨ SqT K.K H p ys) ∧ ∀ l, H l = none → Q (.ref l) (upd H l (.lst ys))) := by
  intro Z G ι h H xs vs Q E R rs p
  obtain ⟨x, v, rfl, rfl, rx, p2⟩ := one_of rs p
  clear p
  have p := p2
  clear p2
  unfold lstop at p
  split at p
  · rename_i ys e1
    obtain ⟨a, vs, rfl, hq, rs'⟩ := (items_of R rx e1).sq
    exact ⟨a, vs, rfl, hq, mk_lst R rs' p⟩
  · exact p.elim
theorem calls_bools {f : List Bool → Bool} {x : PV} {v : V} (R : HR K Z G ι h H) (rx : RV K G ι x v) (p : RP exc K (rV K) Z G ι H (boolsop f x h) Q E) : ∃ (a : Addr) (bs : List Bool), v = V.ref a ∧ SqL K.K H a (bs.map V.bl) ∧ Q (.bl (f bs)) H := by
  unfold boolsop at p
  split at p
  · rename_i ys e1
    split at p
    · rename_i bs e2
      obtain ⟨a, vs, rfl, hq, rs'⟩ := litems_of R rx e1
      rw [allB_of rs' e2] at hq
      exact ⟨a, bs, rfl, .inl hq, RP.ok_here p R (.bl _)⟩
    · exact p.elim
  · exact p.elim
theorem calls_any {r : Bool} : CallS exc K (bltop .any r) (rAny K.K) := by
  intro Z G ι h H xs vs Q E R rs p
  obtain ⟨x, v, rfl, rfl, rx, p2⟩ := one_of rs p
  clear p
  have p := p2
  clear p2
  obtain ⟨a, bs, rfl, hq, q⟩ := calls_bools R rx p
  exact ⟨a, bs, rfl, hq, q⟩
theorem calls_all {r : Bool} : CallS exc K (bltop .all r) (rAll K.K) := by
  intro Z G ι h H xs vs Q E R rs p
  obtain ⟨x, v, rfl, rfl, rx, p2⟩ := one_of rs p
  clear p
  have p := p2
  clear p2
  obtain ⟨a, bs, rfl, hq, q⟩ := calls_bools R rx p
  exact ⟨a, bs, rfl, hq, q⟩

/-! ### truth -/
theorem tru_of (R : HR K Z G ι h H) {x : PV} {v : V} {b : Bool} (r : RV K G ι x v) (e : truthy h x = some b) : TruV K.K v H b := by
  cases r with
  | non => cases e; rfl
  | bl _ => cases e; rfl
  | int _ => cases e; rfl
  | str z =>
    replace e : (if z.length ≤ sizeLine then some (z.length != 0) else none) = some b := e
    split at e
    · rename_i hz
      cases e
      refine ⟨hz, ?_⟩
      rw [Bool.eq_iff_iff]
      simp
    · cases e
  | tup hs rs =>
    cases e
    refine .inr (.inl ⟨_, Same.seqT R.sub hs, ?_⟩)
    cases rs <;> rfl
  | lst hs rs =>
    cases e
    refine .inl ⟨_, .inl (rd_same R.sub hs), ?_⟩
    cases rs <;> rfl
  | dic _ _ _ => cases e
  | @ref n a hn =>
    unfold truthy at e
    obtain ⟨o, ho, ro⟩ := R.at hn
    simp only [ho] at e
    cases o with
    | lst ys =>
      cases e
      generalize hH : H a = u at ro
      cases ro with
      | lst rs =>
        refine .inl ⟨_, .inl (.inl hH), ?_⟩
        cases rs <;> rfl
    | dic _ _ => cases e
    | ins _ _ => cases e
  | exn _ _ _ _ => cases e
/-! ### methods that change a list -/
def rExtR : V → List V → Hp → VK → Prop := fun x vs H Q => ∃ l b xs zs, x = .ref l ∧ vs = [.ref b] ∧ H l = some (.lst xs) ∧ Rd H b (.lst zs) ∧ xs.length + zs.length ≤ sizeLine ∧ Q .non (upd H l (.lst (xs ++ zs)))
theorem mt_extR {X : Cx} : MtM X "list.extend" rExtR := by
  intro pins s σ H x vs v us Q I rx rv h
  obtain ⟨l, b, xs, zs, rfl, rfl, hH, hB, hz, q⟩ := h
  cases rx
  obtain ⟨u, rfl, ru⟩ := rv.one
  cases ru
  obtain ⟨z, its, n, r, hl, e⟩ := I.lstM hH
  obtain ⟨z2, its2, n2, r2, hl2, e2⟩ := inv_lstR I hB
  have hsz : its.toArray.size + its2.toArray.size ≤ sizeLine := by rw [List.size_toArray, List.size_toArray]; omega
  have hlong : ¬ (!its.toArray.isEmpty && Builtin.List.listTooLong (its.toArray.size + its2.toArray.size)) = true := by
    rw [notLongL hsz, Bool.and_false]
    exact Bool.false_ne_true
  refine call_meets F.slot_list_extend ⟨_, e, rfl⟩ F.entry_list_extend (F.args_list_extend_2 _ _)
    (AutoSeq1.list_extend_list_list_0 l its.toArray n b its2.toArray n2 hlong (by rw [List.size_toArray]; omega) (by omega)) ⟨e, e2, ?_⟩
  refine ⟨.non, _, I.lset (its' := its ++ its2) hH e (by simp) (r.append r2) ?_, rfl, q⟩
  rw [List.length_append]
  omega
/-- a changing list, in the layer's heap -/
theorem ref_lst (R : HR K Z G ι h H) {n : Nat} {v : V} {xs : List PV} (rx : RV K G ι (.ref n) v) (e : h[n]? = some (.lst xs)) : ∃ a vs, v = .ref a ∧ ι[n]? = some a ∧ H a = some (.lst vs) ∧ RVs K G ι xs vs := by
  obtain ⟨a, rfl, hn⟩ := rx.ref_inv
  have ro := R.obj n a _ hn e
  generalize hH : H a = u at ro
  cases ro with
  | lst rs => exact ⟨a, _, rfl, hn, hH, rs⟩
/-- it is written -/
theorem put_lst (R : HR K Z G ι h H) {n : Nat} {a : Addr} {xs : List PV} {vs : List V} (hn : ι[n]? = some a) (rs : RVs K G ι xs vs) {Q : Hp → Prop} (p : ∀ G' ι' H', Nx K Z G ι H G' ι' (h.set n (.lst xs)) H' → Q H') : Q (upd H a (.lst vs)) :=
  p G ι _ ⟨Same.refl _, Pre.refl _, R.put hn (.lst rs), fun z hz => upd_ne fun e => (R.zz z hz).2.1 (e ▸ List.mem_of_getElem? hn)⟩
theorem mets_append {x y : PV} {v w : V} (R : HR K Z G ι h H) (rx : RV K G ι x v) (ry : RV K G ι y w) (p : RP exc K (rV K) Z G ι H (appop x y h) Q E) : rAppend v [w] H Q := by
  unfold appop at p
  split at p
  · split at p
    · rename_i xs e
      split at p
      · rename_i hz
        obtain ⟨a, vs, rfl, hn, hH, rs⟩ := ref_lst R rx e
        exact ⟨a, vs, w, rfl, rfl, hH, by rw [← rs.length]; exact hz, put_lst R hn (rs.append (.cons ry .nil)) (Q := fun H' => Q .non H') fun G' ι' H' n => p G' ι' H' _ n .non⟩
      · exact p.elim
    · exact p.elim
  · exact p.elim
theorem mets_extend {x y : PV} {v w : V} (R : HR K Z G ι h H) (rx : RV K G ι x v) (ry : RV K G ι y w) (p : RP exc K (rV K) Z G ι H (extop x y h) Q E) : rExtR v [w] H Q := by
  unfold extop at p
  split at p
  · split at p
    · rename_i e e2
      split at p
      · rename_i hz
        obtain ⟨a, vs, rfl, hn, hH, rs⟩ := ref_lst R rx e
        obtain ⟨b, ws, rfl, hB, rs2⟩ := litems_of R ry e2
        exact ⟨a, b, vs, ws, rfl, rfl, hH, hB, by rw [← rs.length, ← rs2.length]; exact hz, put_lst R hn (rs.append rs2) (Q := fun H' => Q .non H') fun G' ι' H' n => p G' ι' H' _ n .non⟩
      · exact p.elim
    · exact p.elim
  · exact p.elim
end
end Mx


set_option Elab.async false
set_option linter.all false
set_option maxRecDepth 100000
set_option maxHeartbeats 4000000
/-! Each form of an expression: the layer's rule, at what the small language does. -/
namespace Mx
open PySem PySem.Spec PyProof.Rows L2

abbrev kx (X : Cx) : Wr := ⟨X.K, X.mg⟩
section
variable {X : Cx} {exc : List Str} {W : WX} {a b c : Expr} {ra rb rc : Env' → MH → Res PV} {pos : Pos}

theorem tOp_weak {r : R2} {f : PV → PV → MH → Res PV} {K : Wr} (k : OpS exc K f r) {σ : L2.St} {H : Hp} {Q : VK} (h : tE exc K W (fun ρ h => (ra ρ h).bind fun x h => (rb ρ h).bind fun y h => f x y h) σ H Q) :
    tOp r (tE exc K W ra) (tE exc K W rb) σ H Q := by
  obtain ⟨Z, G, ι, h, ρ, R, S, p⟩ := h
  refine ⟨Z, G, ι, h, ρ, R, S, p.bind fun x h1 G1 ι1 H1 vx n1 rx p1 => ?_⟩
  refine ⟨Z, G1, ι1, h1, ρ, n1.hr, S.mono n1.same n1.pre, p1.bind fun y h2 G2 ι2 H2 vy n2 ry p2 => ?_⟩
  exact k Z G2 ι2 h2 H2 x y vx vy Q _ n2.hr (rx.mono n2.same n2.pre) ry p2
theorem me_op {op : Operator} {r : R2} {f : PV → PV → MH → Res PV} (ho : OpR X (binaryOp op) r) (k : OpS exc (kx X) f r) (ha : PE X a (tE exc (kx X) W ra)) (hb : PE X b (tE exc (kx X) W rb)) :
    PE X (.BinOp a op b pos) (tE exc (kx X) W fun ρ h => (ra ρ h).bind fun x h => (rb ρ h).bind fun y h => f x y h) := (pe_op ho ha hb).weak fun _ _ _ q => tOp_weak k q
theorem me_bin {bo : Bo} {op : Operator} {r : Bool} (hm : boM bo op = true) (ha : PE X a (tE exc (kx X) W ra)) (hb : PE X b (tE exc (kx X) W rb)) :
    PE X (.BinOp a op b pos) (tE exc (kx X) W fun ρ h => (ra ρ h).bind fun x h => (rb ρ h).bind fun y h => binop bo r x y h) := by
  cases bo <;> cases op <;> first | cases hm | skip
  · exact me_op op_addAll (ops_add (K := kx X)) ha hb
  · exact me_op op_sub (ops_sub (K := kx X)) ha hb
  · exact me_op op_mulAll (ops_mul (K := kx X)) ha hb
  · exact me_op op_fdivF (ops_div (K := kx X)) ha hb
  · exact me_op op_modN (ops_mod (K := kx X)) ha hb
  · exact me_op op_pow (ops_pow (K := kx X)) ha hb
/-- the rule for a comparison and what it gives -/
theorem cmp_rule {co : Co} {op : CmpOp} (hm : coM co op = true) (hu : X.A.units + 64 < cLine) : ∃ r, OpR X (compareOp op) r ∧ OpS exc (kx X) (cmpR co) r := by
  cases co <;> cases op <;> first | cases hm | skip
  · exact ⟨_, op_eqAll hu, ops_eq⟩
  · exact ⟨_, op_neAll hu, ops_ne⟩
  · exact ⟨_, op_ltAll, ops_lt⟩
  · exact ⟨_, op_leAll, ops_le⟩
  · exact ⟨_, op_gtAll, ops_gt⟩
  · exact ⟨_, op_geAll, ops_ge⟩
  · exact ⟨_, op_isN, ops_isN⟩
  · exact ⟨_, op_notN, ops_isntN⟩
  · exact ⟨_, op_inAll, ops_in⟩
  · exact ⟨_, op_ninAll, ops_nin⟩
/-- no set display -/
def isSet : Expr → Bool
  | .Set _ _ _ => true
  | _ => false
theorem behind_of {b : Expr} {op : CmpOp} (h : isSet b = false) : behindInMarks op b = false := by
  cases b <;> first | rfl | cases h
theorem ofB_ok {o : Option Bool} {h : MH} {K : Wr} {Z : List Addr} {G : Hp} {ι : List Addr} {H : Hp} {Q : VK} {E : XK} (R : HR K Z G ι h H) (p : RP exc K (rV K) Z G ι H (ofB o h) Q E) : ∃ k, o = some k ∧ Q (.bl k) H := by
  cases o with
  | none => exact p.elim
  | some k => exact ⟨k, rfl, RP.ok_here p R (.bl k)⟩
theorem me_cmp {co : Co} {op : CmpOp} (hm : coM co op = true) (hu : X.A.units + 64 < cLine) (hs : isSet b = false) (ha : PE X a (tE exc (kx X) W ra)) (hb : PE X b (tE exc (kx X) W rb)) :
    PE X (.Compare a [op] [b] pos) (tE exc (kx X) W fun ρ h => (ra ρ h).bind fun x h => (rb ρ h).bind fun y h => ofB (cmpop co x y h) h) := by
  obtain ⟨r, ho, k⟩ := cmp_rule (X := X) (exc := exc) hm hu
  exact (pe_cmpR ho ha hb (behind_of hs)).weak fun _ _ _ q => tOp_weak (f := cmpR co) k q
/-- a run's truth -/
def truR (r : Env' → MH → Res PV) : Env' → MH → Res Bool := fun ρ h => (r ρ h).bind fun x h => match truthy h x with
  | some b => .ok b h
  | none => .stuck
theorem Res.assoc {α β γ : Type} (r : Res α) (f : α → MH → Res β) (g : β → MH → Res γ) : (r.bind f).bind g = r.bind fun a h => (f a h).bind g := by cases r <;> rfl
def ofO (o : Option Bool) (h : MH) : Res Bool := match o with
  | some b => .ok b h
  | none => .stuck
/-- a run that tells a bool -/
def blR (r : Res Bool) : Res PV := r.bind fun b h => .ok (.bl b) h
theorem ofB_eq (o : Option Bool) (h : MH) : ofB o h = blR (ofO o h) := by cases o <;> rfl
theorem blR_bind {α : Type} (r : Res α) (f : α → MH → Res Bool) : (r.bind fun a h => blR (f a h)) = blR (r.bind f) := (Res.assoc _ _ _).symm
theorem tru_blR (r : Res Bool) : ((blR r).bind fun x h => match truthy h x with
  | some b => .ok b h
  | none => .stuck) = r := by cases r <;> rfl
theorem blR_T {K : Wr} {Z : List Addr} {G : Hp} {ι : List Addr} {H : Hp} {r : Res Bool} {Q : Bool → Hp → Prop} {E : XK} (p : RP exc K (rId (α := Bool)) Z G ι H r Q E) : RP exc K (rV K) Z G ι H (blR r) (fun x H => ∃ k, x = .bl k ∧ Q k H) E := by
  cases r with
  | stuck => exact p
  | exn c v h => exact p
  | ok k h =>
    intro G' ι' H' b n r
    cases r
    exact ⟨k, rfl, p G' ι' H' k n rfl⟩
/-- the test of what tells a bool -/
theorem tT_bl {K : Wr} {r : Env' → MH → Res Bool} {σ : L2.St} {H : Hp} {Q : Bool → Hp → Prop} (q : tT exc K W (truR fun ρ h => blR (r ρ h)) σ H Q) : tE exc K W (fun ρ h => blR (r ρ h)) σ H (fun x H' => ∃ k, x = .bl k ∧ Q k H') := by
  obtain ⟨Z, G, ι, h, ρ, R, S, p⟩ := q
  refine ⟨Z, G, ι, h, ρ, R, S, blR_T ?_⟩
  unfold truR at p
  rw [tru_blR] at p
  exact p
theorem cmp_bl {co : Co} (ra rb : Env' → MH → Res PV) : (fun ρ h => (ra ρ h).bind fun x h => (rb ρ h).bind fun y h => ofB (cmpop co x y h) h) = fun ρ h => blR ((ra ρ h).bind fun x h => (rb ρ h).bind fun y h => ofO (cmpop co x y h) h) := by
  funext ρ h
  simp only [ofB_eq, blR_bind]
theorem mt_cmp {co : Co} {op : CmpOp} (hm : coM co op = true) (hu : X.A.units + 64 < cLine) (hs : isSet b = false) (ha : PE X a (tE exc (kx X) W ra)) (hb : PE X b (tE exc (kx X) W rb)) :
    PT X (.Compare a [op] [b] pos) (tT exc (kx X) W (truR fun ρ h => (ra ρ h).bind fun x h => (rb ρ h).bind fun y h => ofB (cmpop co x y h) h)) := by
  obtain ⟨r, ho, k⟩ := cmp_rule (X := X) (exc := exc) hm hu
  refine (pt_cmpR ho ha hb (behind_of hs)).weak fun σ H Q q => ?_
  show tOp r _ _ σ H (fun x H' => ∃ k, x = .bl k ∧ Q k H')
  refine tOp_weak (f := cmpR co) k ?_
  rw [cmp_bl] at q
  have := tT_bl q
  rw [← cmp_bl] at this
  exact this
theorem tChain_weak {r r' : R2} {co co' : Co} {K : Wr} (k : OpS exc K (cmpR co) r) (k' : OpS exc K (cmpR co') r') {σ : L2.St} {H : Hp} {Q : VK}
    (h : tE exc K W (fun ρ h => (ra ρ h).bind fun x h => (rb ρ h).bind fun y h => match cmpop co x y h with
      | some true => (rc ρ h).bind fun z h => ofB (cmpop co' y z h) h
      | some false => .ok (.bl false) h
      | none => .stuck) σ H Q) :
    tChain r r' (tE exc K W ra) (tE exc K W rb) (tE exc K W rc) σ H Q := by
  obtain ⟨Z, G, ι, h, ρ, R, S, p⟩ := h
  refine ⟨Z, G, ι, h, ρ, R, S, p.bind fun x h1 G1 ι1 H1 vx n1 rx p1 => ?_⟩
  refine ⟨Z, G1, ι1, h1, ρ, n1.hr, S.mono n1.same n1.pre, p1.bind fun y h2 G2 ι2 H2 vy n2 ry p2 => ?_⟩
  refine k Z G2 ι2 h2 H2 x y vx vy _ (fun _ _ _ => False) n2.hr (rx.mono n2.same n2.pre) ry ?_
  unfold cmpR
  cases e : cmpop co x y h2 with
  | none => rw [e] at p2; exact p2.elim
  | some t =>
    intro G3 ι3 H3 z n3 rz
    cases rz
    refine ⟨t, rfl, ?_⟩
    rw [e] at p2
    cases t with
    | false => exact p2 G3 ι3 H3 _ n3 (.bl _)
    | true =>
      rw [if_pos rfl]
      refine ⟨Z, G3, ι3, h2, ρ, n3.hr, S.mono (n1.same.trans (n2.same.trans n3.same)) (n1.pre.trans (n2.pre.trans n3.pre)), (RP.later p2 n3).bind fun z h4 G4 ι4 H4 vz n4 rz p4 => ?_⟩
      exact k' Z G4 ι4 h4 H4 y z vy vz Q _ n4.hr (ry.mono (n3.same.trans n4.same) (n3.pre.trans n4.pre)) rz p4
theorem me_chain {co co' : Co} {op op' : CmpOp} (hm : coM co op = true) (hm' : coM co' op' = true) (hu : X.A.units + 64 < cLine) (hs : isSet b = false) (hs' : isSet c = false) (ha : PE X a (tE exc (kx X) W ra)) (hb : PE X b (tE exc (kx X) W rb)) (hc : PE X c (tE exc (kx X) W rc)) :
    PE X (.Compare a [op, op'] [b, c] pos) (tE exc (kx X) W fun ρ h => (ra ρ h).bind fun x h => (rb ρ h).bind fun y h => match cmpop co x y h with
      | some true => (rc ρ h).bind fun z h => ofB (cmpop co' y z h) h
      | some false => .ok (.bl false) h
      | none => .stuck) := by
  obtain ⟨r, ho, k⟩ := cmp_rule (X := X) (exc := exc) hm hu
  obtain ⟨r', ho', k'⟩ := cmp_rule (X := X) (exc := exc) hm' hu
  exact (pe_chain ho ho' ha hb hc (by unfold lastMarks; exact behind_of hs')).weak fun _ _ _ q => tChain_weak k k' q
theorem chain_bl {co co' : Co} (ra rb rc : Env' → MH → Res PV) : (fun ρ h => (ra ρ h).bind fun x h => (rb ρ h).bind fun y h => match cmpop co x y h with
      | some true => (rc ρ h).bind fun z h => ofB (cmpop co' y z h) h
      | some false => .ok (.bl false) h
      | none => .stuck) = fun (ρ : Env') (h : MH) => blR ((ra ρ h).bind fun x h => (rb ρ h).bind fun y h => match cmpop co x y h with
      | some true => (rc ρ h).bind fun z h => ofO (cmpop co' y z h) h
      | some false => .ok false h
      | none => .stuck) := by
  funext ρ h
  rw [← blR_bind]
  congr 1
  funext x h
  rw [← blR_bind]
  congr 1
  funext y h
  cases cmpop co x y h with
  | none => rfl
  | some t => cases t with
    | false => rfl
    | true => simp only [ofB_eq, blR_bind]
theorem mt_chain {co co' : Co} {op op' : CmpOp} (hm : coM co op = true) (hm' : coM co' op' = true) (hu : X.A.units + 64 < cLine) (hs : isSet b = false) (hs' : isSet c = false) (ha : PE X a (tE exc (kx X) W ra)) (hb : PE X b (tE exc (kx X) W rb)) (hc : PE X c (tE exc (kx X) W rc)) :
    PT X (.Compare a [op, op'] [b, c] pos) (tT exc (kx X) W (truR fun ρ h => (ra ρ h).bind fun x h => (rb ρ h).bind fun y h => match cmpop co x y h with
      | some true => (rc ρ h).bind fun z h => ofB (cmpop co' y z h) h
      | some false => .ok (.bl false) h
      | none => .stuck)) := by
  obtain ⟨r, ho, k⟩ := cmp_rule (X := X) (exc := exc) hm hu
  obtain ⟨r', ho', k'⟩ := cmp_rule (X := X) (exc := exc) hm' hu
  refine (pt_chain ho ho' ha hb hc (by unfold lastMarks; exact behind_of hs')).weak fun σ H Q q => ?_
  show tChain r r' _ _ _ σ H (fun x H' => ∃ k, x = .bl k ∧ Q k H')
  refine tChain_weak (co := co) (co' := co') k k' ?_
  rw [chain_bl] at q
  have := tT_bl q
  rw [← chain_bl] at this
  exact this

/-! ### names, constants, displays -/
theorem me_var {i : Nat} {x : Str} (hN : X.N[i]? = some x) (hv : Vis X.env.scope x) (hd : (x == ("__debug__" : Str)) = false) (hcd : (x == ("__classdict__" : Str)) = false) :
    PE X (.Name x pos) (tE exc (kx X) W fun ρ h => match ρ[i]? with
      | some (some x) => .ok x h
      | _ => .stuck) := by
  refine (pe_var hN hv hd hcd).weak fun σ H Q q => ?_
  obtain ⟨Z, G, ι, h, ρ, R, S, p⟩ := q
  dsimp only at p
  split at p
  · rename_i x e
    obtain ⟨v, e2, rv⟩ := S.2 i x e
    exact ⟨v, e2, RP.ok_here p R rv⟩
  · exact p.elim
theorem tC_weak {K : Wr} {x : PV} {v : V} (r : ∀ G ι, RV K G ι x v) {σ : L2.St} {H : Hp} {Q : VK} (q : tE exc K W (fun _ h => .ok x h) σ H Q) : tC v σ H Q := by
  obtain ⟨Z, G, ι, h, ρ, R, S, p⟩ := q
  exact RP.ok_here p R (r G ι)
theorem me_non {j pos} : PE X (.Constant .none j pos) (tE exc (kx X) W fun _ h => .ok .non h) := pe_non.weak fun _ _ _ q => tC_weak (fun _ _ => .non) q
theorem me_bl {b j pos} : PE X (.Constant (.bool b) j pos) (tE exc (kx X) W fun _ h => .ok (.bl b) h) := pe_bl.weak fun _ _ _ q => tC_weak (fun _ _ => .bl b) q
theorem me_int {i j pos} : PE X (.Constant (.int i) j pos) (tE exc (kx X) W fun _ h => .ok (.int i) h) := pe_int.weak fun _ _ _ q => tC_weak (fun _ _ => .int i) q
theorem me_str {x j pos} : PE X (.Constant (.str x) j pos) (tE exc (kx X) W fun _ h => .ok (.str x) h) := pe_str.weak fun _ _ _ q => tC_weak (fun _ _ => .str x) q
theorem me_con {x : Str} {v : PV} {u : Value} {y : V} (hg : Gl X x) (hm : X.mg x = some u) (r : RelV y u) (hr : ∀ G ι, RV (kx X) G ι v y) (hd : (x == ("__debug__" : Str)) = false) : PE X (.Name x pos) (tE exc (kx X) W fun _ h => .ok v h) :=
  (pe_glob hg hm r hd).weak fun _ _ _ q => tC_weak hr q
theorem me_nil : PA X [] (tA exc (kx X) W fun _ h => .ok [] h) := pa_nil.weak fun σ H Q q => by
  obtain ⟨Z, G, ι, h, ρ, R, S, p⟩ := q
  exact RP.ok_here p R .nil
theorem me_cons {e : Expr} {es : List Expr} {r : Env' → MH → Res PV} {rs : Env' → MH → Res (List PV)} (ha : PE X e (tE exc (kx X) W r)) (hr : PA X es (tA exc (kx X) W rs)) (hs : starEach (e :: es) X.env = (false, eval e X.env) :: starEach es X.env) :
    PA X (e :: es) (tA exc (kx X) W fun ρ h => (r ρ h).bind fun x h => (rs ρ h).bind fun xs h => .ok (x :: xs) h) := by
  refine (pa_cons ha hr hs).weak fun σ H Q q => ?_
  obtain ⟨Z, G, ι, h, ρ, R, S, p⟩ := q
  refine ⟨Z, G, ι, h, ρ, R, S, p.bind fun x h1 G1 ι1 H1 vx n1 rx p1 => ?_⟩
  refine ⟨Z, G1, ι1, h1, ρ, n1.hr, S.mono n1.same n1.pre, p1.bind fun y h2 G2 ι2 H2 vy n2 ry p2 => ?_⟩
  exact RP.ok_here p2 n2.hr (.cons (rx.mono n2.same n2.pre) ry)
theorem me_tup {es : List Expr} {k} {rs : Env' → MH → Res (List PV)} (ha : PA X es (tA exc (kx X) W rs)) (hl : ∀ ρ h xs h', rs ρ h = .ok xs h' → xs.length ≤ 1000) : PE X (.Tuple es k pos) (tE exc (kx X) W fun ρ h => (rs ρ h).bind fun xs h => .ok (.tup xs) h) := by
  refine (pe_tup ha).weak fun σ H Q q => ?_
  obtain ⟨Z, G, ι, h, ρ, R, S, p⟩ := q
  refine ⟨Z, G, ι, h, ρ, R, S, ?_⟩
  have len := hl ρ h
  dsimp only at p
  generalize rs ρ h = r at p len
  cases r with
  | stuck => exact p
  | exn c v h => exact p
  | ok xs h1 =>
    intro G1 ι1 H1 vs n1 rv
    have z := len xs h1 rfl
    exact ⟨by rw [← rv.length, sizeLine_eq]; omega, mk_tup n1.hr rv (RP.later p n1)⟩
theorem me_lst {es : List Expr} {rs : Env' → MH → Res (List PV)} {b : Bool} (ha : PA X es (tA exc (kx X) W rs)) (hl : ∀ ρ h xs h', rs ρ h = .ok xs h' → xs.length ≤ 1000) : PE X (.List es pos) (tE exc (kx X) W fun ρ h => (rs ρ h).bind fun xs h => mkLst b xs h) := by
  refine (pe_lst ha).weak fun σ H Q q => ?_
  obtain ⟨Z, G, ι, h, ρ, R, S, p⟩ := q
  refine ⟨Z, G, ι, h, ρ, R, S, ?_⟩
  have len := hl ρ h
  dsimp only at p
  generalize rs ρ h = r at p len
  cases r with
  | stuck => exact p
  | exn c v h => exact p
  | ok xs h1 =>
    intro G1 ι1 H1 vs n1 rv
    have z := len xs h1 rfl
    exact ⟨by rw [← rv.length, sizeLine_eq]; omega, mk_lst n1.hr rv (RP.later p n1)⟩
theorem me_neg (ha : PE X a (tE exc (kx X) W ra)) : PE X (.UnaryOp .USub a pos) (tE exc (kx X) W fun ρ h => (ra ρ h).bind fun x h => match x with
    | .int i => .ok (.int (-i)) h
    | _ => .stuck) := by
  refine (pe_un un_neg ha).weak fun σ H Q q => ?_
  obtain ⟨Z, G, ι, h, ρ, R, S, p⟩ := q
  refine ⟨Z, G, ι, h, ρ, R, S, p.bind fun x h1 G1 ι1 H1 vx n1 rx p1 => ?_⟩
  split at p1
  · rename_i i
    exact ⟨i, rx.int_inv, RP.ok_here p1 n1.hr (.int _)⟩
  · exact p1.elim
theorem me_not (ha : PE X a (tE exc (kx X) W ra)) : PE X (.UnaryOp .Not a pos) (tE exc (kx X) W fun ρ h => (ra ρ h).bind fun x h => ofB ((truthy h x).map (!·)) h) := by
  refine (pe_notT ha).weak fun σ H Q q => ?_
  obtain ⟨Z, G, ι, h, ρ, R, S, p⟩ := q
  refine ⟨Z, G, ι, h, ρ, R, S, p.bind fun x h1 G1 ι1 H1 vx n1 rx p1 => ?_⟩
  cases e : truthy h1 x with
  | none => rw [e] at p1; exact p1.elim
  | some k =>
    rw [e] at p1
    exact ⟨k, tru_of n1.hr rx e, RP.ok_here p1 n1.hr (.bl _)⟩
theorem me_one {op} {r : Env' → MH → Res PV} (ha : PE X a (tE exc (kx X) W r)) : PE X (.BoolOp op [a] pos) (tE exc (kx X) W r) := pe_one ha
theorem me_and {e : Expr} {rest : List Expr} {r rr : Env' → MH → Res PV} (ha : PE X a (tE exc (kx X) W r)) (hb : PE X (.BoolOp .And (e :: rest) pos) (tE exc (kx X) W rr)) :
    PE X (.BoolOp .And (a :: e :: rest) pos) (tE exc (kx X) W fun ρ h => (r ρ h).bind fun x h => match truthy h x with
      | some true => rr ρ h
      | some false => .ok x h
      | none => .stuck) := by
  refine (pe_andT ha hb).weak fun σ H Q q => ?_
  obtain ⟨Z, G, ι, h, ρ, R, S, p⟩ := q
  refine ⟨Z, G, ι, h, ρ, R, S, p.bind fun x h1 G1 ι1 H1 vx n1 rx p1 => ?_⟩
  cases e : truthy h1 x with
  | none => rw [e] at p1; exact p1.elim
  | some k =>
    rw [e] at p1
    refine ⟨k, tru_of n1.hr rx e, ?_⟩
    cases k with
    | true => exact ⟨Z, G1, ι1, h1, ρ, n1.hr, S.mono n1.same n1.pre, p1⟩
    | false => exact RP.ok_here p1 n1.hr rx
theorem me_or {e : Expr} {rest : List Expr} {r rr : Env' → MH → Res PV} (ha : PE X a (tE exc (kx X) W r)) (hb : PE X (.BoolOp .Or (e :: rest) pos) (tE exc (kx X) W rr)) :
    PE X (.BoolOp .Or (a :: e :: rest) pos) (tE exc (kx X) W fun ρ h => (r ρ h).bind fun x h => match truthy h x with
      | some true => .ok x h
      | some false => rr ρ h
      | none => .stuck) := by
  refine (pe_orT ha hb).weak fun σ H Q q => ?_
  obtain ⟨Z, G, ι, h, ρ, R, S, p⟩ := q
  refine ⟨Z, G, ι, h, ρ, R, S, p.bind fun x h1 G1 ι1 H1 vx n1 rx p1 => ?_⟩
  cases e : truthy h1 x with
  | none => rw [e] at p1; exact p1.elim
  | some k =>
    rw [e] at p1
    refine ⟨k, tru_of n1.hr rx e, ?_⟩
    cases k with
    | false => exact ⟨Z, G1, ι1, h1, ρ, n1.hr, S.mono n1.same n1.pre, p1⟩
    | true => exact RP.ok_here p1 n1.hr rx
theorem me_ifx {r : Env' → MH → Res PV} (hc : PT X c (tT exc (kx X) W (truR r))) (ha : PE X a (tE exc (kx X) W ra)) (hb : PE X b (tE exc (kx X) W rb)) :
    PE X (.IfExp c a b pos) (tE exc (kx X) W fun ρ h => (r ρ h).bind fun x h => match truthy h x with
      | some true => ra ρ h
      | some false => rb ρ h
      | none => .stuck) := by
  refine (pe_ifExp hc ha hb).weak fun σ H Q q => ?_
  obtain ⟨Z, G, ι, h, ρ, R, S, p⟩ := q
  refine ⟨Z, G, ι, h, ρ, R, S, ?_⟩
  have e : ((r ρ h).bind fun x h => match truthy h x with
      | some true => ra ρ h
      | some false => rb ρ h
      | none => .stuck) = (truR r ρ h).bind fun t h => if t = true then ra ρ h else rb ρ h := by
    unfold truR
    rw [Res.assoc]
    congr 1
    funext x h
    cases truthy h x with
    | none => rfl
    | some t => cases t <;> rfl
  dsimp only at p
  rw [e] at p
  refine p.bind fun t h1 G1 ι1 H1 t' n1 et p1 => ?_
  cases et
  cases t with
  | true => exact ⟨Z, G1, ι1, h1, ρ, n1.hr, S.mono n1.same n1.pre, p1⟩
  | false => exact ⟨Z, G1, ι1, h1, ρ, n1.hr, S.mono n1.same n1.pre, p1⟩
theorem plainIx_of {b : Expr} (h : isSlice b = false) : PlainIx b := by
  intro o i
  cases b <;> first | rfl | cases h
theorem me_ix (hs : isSlice b = false) (ha : PE X a (tE exc (kx X) W ra)) (hb : PE X b (tE exc (kx X) W rb)) :
    PE X (.Subscript a b pos) (tE exc (kx X) W fun ρ h => (ra ρ h).bind fun x h => (rb ρ h).bind fun y h => ixop x y h) :=
  (pe_ix ix_seq ha hb (plainIx_of hs)).weak fun _ _ _ q => tOp_weak (K := kx X) ops_ix q
theorem mo_none : PO X none (tOi exc (kx X) W fun _ h => .ok none h) := po_none.weak fun σ H Q q => by
  obtain ⟨Z, G, ι, h, ρ, R, S, p⟩ := q
  exact RP.ok_here p R rfl
theorem mo_some {e : Expr} {r : Env' → MH → Res PV} (he : PE X e (tE exc (kx X) W r)) : PO X (some e) (tOi exc (kx X) W fun ρ h => (r ρ h).bind fun x h => match x with
    | .int i => .ok (some i) h
    | _ => .stuck) := by
  refine (po_some he).weak fun σ H Q q => ?_
  obtain ⟨Z, G, ι, h, ρ, R, S, p⟩ := q
  refine ⟨Z, G, ι, h, ρ, R, S, p.bind fun x h1 G1 ι1 H1 vx n1 rx p1 => ?_⟩
  split at p1
  · rename_i i
    exact ⟨i, rx.int_inv, RP.ok_here p1 n1.hr rfl⟩
  · exact p1.elim
theorem me_sl {lo hi : Option Expr} {p2 : Pos} {r : Bool} {rl rh : Env' → MH → Res (Option Int)} (ha : PE X a (tE exc (kx X) W ra)) (hl : PO X lo (tOi exc (kx X) W rl)) (hh : PO X hi (tOi exc (kx X) W rh)) :
    PE X (.Subscript a (.Slice lo hi none p2) pos) (tE exc (kx X) W fun ρ h => (ra ρ h).bind fun x h => (rl ρ h).bind fun l h => (rh ρ h).bind fun u h => slop r x l u h) := by
  refine (pe_slice sl_all ha hl hh).weak fun σ H Q q => ?_
  obtain ⟨Z, G, ι, h, ρ, R, S, p⟩ := q
  refine ⟨Z, G, ι, h, ρ, R, S, p.bind fun x h1 G1 ι1 H1 vx n1 rx p1 => ?_⟩
  refine ⟨Z, G1, ι1, h1, ρ, n1.hr, S.mono n1.same n1.pre, p1.bind fun l h2 G2 ι2 H2 l' n2 el p2 => ?_⟩
  refine ⟨Z, G2, ι2, h2, ρ, n2.hr, S.mono (n1.same.trans n2.same) (n1.pre.trans n2.pre), p2.bind fun u h3 G3 ι3 H3 u' n3 eu p3 => ?_⟩
  cases el
  cases eu
  exact ops_sl n3.hr (rx.mono (n2.same.trans n3.same) (n2.pre.trans n3.pre)) p3
/-! ### built-ins -/
theorem tCB_weak {r : List V → Hp → VK → Prop} {K : Wr} {f : List PV → MH → Res PV} {rs : Env' → MH → Res (List PV)} (k : CallS exc K f r) {σ : L2.St} {H : Hp} {Q : VK} (h : tE exc K W (fun ρ h => (rs ρ h).bind fun xs h => f xs h) σ H Q) : tCB r (tA exc K W rs) σ H Q := by
  obtain ⟨Z, G, ι, h, ρ, R, S, p⟩ := h
  exact ⟨Z, G, ι, h, ρ, R, S, p.bind fun x h1 G1 ι1 H1 vx n1 rx p1 => k Z G1 ι1 h1 H1 x vx Q _ n1.hr rx p1⟩
theorem me_blt {f : Bi} {r : Bool} {x : Str} {p : Pos} {e : Expr} {es : List Expr} {rs : Env' → MH → Res (List PV)} (hx : biN f = x) (hg : Gl X x) (hc : biC f = false → X.calm = true) (hm : if f = .gcd then X.mg "gcd" = some (.builtin "math.gcd") else X.mg x = none)
    (ha : PA X (e :: es) (tA exc (kx X) W rs)) (hdb : (x == ("__debug__" : Str)) = false) (he : starEach (e :: es) X.env = (false, eval e X.env) :: starEach es X.env) (hpl : (backTo pos (starEach es X.env)).any (·.1) = false) :
    PE X (.Call (.Name x p) (e :: es) [] pos) (tE exc (kx X) W fun ρ h => (rs ρ h).bind fun xs h => bltop f r xs h) := by
  subst hx
  cases f with
  | len => exact (pe_callB call_lenAll hg hm (by decide +kernel) ha (by decide) hdb he hpl).weak fun _ _ _ q => tCB_weak (K := kx X) calls_len q
  | abs => exact (pe_callB call_abs hg hm (by decide +kernel) ha (by decide) hdb he hpl).weak fun _ _ _ q => tCB_weak (K := kx X) calls_abs q
  | min => exact (pe_callB (call_min2 (hc rfl)) hg hm (by decide +kernel) ha (by decide) hdb he hpl).weak fun _ _ _ q => tCB_weak (K := kx X) calls_min q
  | max => exact (pe_callB (call_max2 (hc rfl)) hg hm (by decide +kernel) ha (by decide) hdb he hpl).weak fun _ _ _ q => tCB_weak (K := kx X) calls_max q
  | int => exact (pe_callTy call_int1 hg hm (by decide +kernel) ha (by decide) hdb he hpl).weak fun _ _ _ q => tCB_weak (K := kx X) calls_int q
  | tuple => exact (pe_callTy call_tuple_of hg hm (by decide +kernel) ha (by decide) hdb he hpl).weak fun _ _ _ q => tCB_weak (K := kx X) calls_tuple q
  | list => exact (pe_callTy call_list_of hg hm (by decide +kernel) ha (by decide) hdb he hpl).weak fun _ _ _ q => tCB_weak (K := kx X) calls_list q
  | any => exact (pe_callB (cr_any (hc rfl)) hg hm (by decide +kernel) ha (by decide) hdb he hpl).weak fun _ _ _ q => tCB_weak (K := kx X) calls_any q
  | all => exact (pe_callB (cr_all (hc rfl)) hg hm (by decide +kernel) ha (by decide) hdb he hpl).weak fun _ _ _ q => tCB_weak (K := kx X) calls_all q
  | gcd => exact (pe_callBfun cr_gcd hg hm ha hdb he hpl).weak fun _ _ _ q => tCB_weak (K := kx X) calls_gcd q

/-! ### isinstance -/
theorem boot_ty : ∀ t ∈ askT, bootBuiltins (Str.ofString t) = some (.type t) := by
  intro t ht
  simp only [askT, List.mem_cons, List.not_mem_nil, or_false] at ht
  rcases ht with rfl | rfl | rfl | rfl | rfl | rfl <;> decide +kernel
theorem name_ty : ∀ t ∈ askT, (Str.ofString t : Str) ≠ "__name__" ∧ ((Str.ofString t : Str) == ("__debug__" : Str)) = false := by
  intro t ht
  simp only [askT, List.mem_cons, List.not_mem_nil, or_false] at ht
  rcases ht with rfl | rfl | rfl | rfl | rfl | rfl <;> exact ⟨by decide, by decide⟩
def dataT : List String := ["NoneType", "bool", "int", "str", "tuple", "list", "dict"]
theorem kit_all : ∀ t ∈ dataT, ∀ u ∈ askT, kitB t u = some (subB t u) := by
  intro t ht u hu
  simp only [dataT, askT, List.mem_cons, List.not_mem_nil, or_false] at ht hu
  rcases ht with rfl | rfl | rfl | rfl | rfl | rfl | rfl <;> rcases hu with rfl | rfl | rfl | rfl | rfl | rfl <;> decide +kernel
theorem ty_of {K : Wr} {Z : List Addr} {G : Hp} {ι : List Addr} {h : MH} {H : Hp} (R : HR K Z G ι h H) {x : PV} {v : V} {t : String} (r : RV K G ι x v) (e : tyOf h x = some t) : TyX K.K H v (.type t) ∧ t ∈ dataT := by
  cases r with
  | non => cases e; exact ⟨.base .non, by decide⟩
  | bl b => cases e; exact ⟨.base (.bl b), by decide⟩
  | int i => cases e; exact ⟨.base (.int i), by decide⟩
  | str z => cases e; exact ⟨.base (.str z), by decide⟩
  | @tup a xs vs hs rs =>
    cases e
    refine ⟨?_, by decide⟩
    rcases Same.seqT R.sub hs with (q | ⟨o, q⟩) | ⟨o, its, n, hk, hc, _⟩
    · exact .base (.tup q)
    · exact .fTuple q
    · exact .kTuple hk hc
  | lst hs rs =>
    cases e
    refine ⟨?_, by decide⟩
    rcases rd_same R.sub hs with q | ⟨o, q⟩
    · exact .base (.lst q)
    · exact .base (.frz q)
  | dic hs _ rs =>
    cases e
    refine ⟨?_, by decide⟩
    rcases rd_same R.sub hs with q | ⟨o, q⟩
    · exact .base (.dK q)
    · exact .fDict q
  | @ref n a hn =>
    obtain ⟨o, ho, ro⟩ := R.at hn
    unfold tyOf at e
    simp only [ho] at e
    generalize hH : H a = u at ro
    cases ro with
    | lst rs => cases e; exact ⟨.base (.lst hH), by decide⟩
    | dic _ rs => cases e; exact ⟨.base (.dK hH), by decide⟩
    | ins _ _ _ => cases e
  | exn _ _ _ _ => cases e
theorem me_type {x : Str} {t : String} {p : Pos} (hx : x = (t : Str)) (ht : t ∈ askT) (hg : Gl X x) (hm : X.mg x = none) : PE X (.Name x p) (tC (.ty t)) := by
  subst hx
  exact pe_bltn hg hm (boot_ty t ht) rfl (name_ty t ht).1 (name_ty t ht).2
theorem kits_any {K : PySem.W.Frag} {t : String} (ht : t ∈ dataT) : ∀ {ts : List String}, (∀ u ∈ ts, u ∈ askT) → PySem.W.kitAny K (.type t) (ts.map Value.type) = some (ts.any (subB t))
  | [], _ => kitAny_nil
  | u :: ts, h => by
    refine kitAny_cons (b := subB t u) (kit_ty (kit_all t ht u (h u List.mem_cons_self))) (fun e => ?_) (fun e => ?_)
    · rw [List.any_cons, e, Bool.false_or]
      exact kits_any ht fun v hv => h v (List.mem_cons_of_mem _ hv)
    · rw [List.any_cons, e, Bool.true_or]
theorem clsvs : ∀ ts : List String, Paired ClsV (ts.map V.ty) (ts.map Value.type)
  | [] => .nil
  | t :: ts => .cons (.ty t) (clsvs ts)
theorem me_isi1 {t : Expr} {p : Pos} {u : String} {g : Str} (hgn : g = ("isinstance" : Str)) (hg : Gl X g) (hm : X.mg g = none) (hu : u ∈ askT) (ha : PE X a (tE exc (kx X) W ra)) (ht : PE X t (tC (.ty u))) (hs : starEach [a, t] X.env = [(false, eval a X.env), (false, eval t X.env)]) (hs2 : starEach [t] X.env = [(false, eval t X.env)]) :
    PE X (.Call (.Name g p) [a, t] [] pos) (tE exc (kx X) W fun ρ h => (ra ρ h).bind fun x h => ofB (isiop x [u] h) h) := by
  subst hgn
  refine (pe_callB call_isi hg hm (by decide +kernel) (pa_cons ha (pa_cons ht pa_nil hs2) (by rw [hs, hs2])) (by decide) (by decide) (by rw [hs, hs2]) (by rw [hs2]; rfl)).weak fun σ H Q q => ?_
  obtain ⟨Z, G, ι, h, ρ, R, S, p⟩ := q
  refine ⟨Z, G, ι, h, ρ, R, S, p.bind fun x h1 G1 ι1 H1 vx n1 rx p1 => ?_⟩
  unfold isiop at p1
  cases e : tyOf h1 x with
  | none => rw [e] at p1; exact p1.elim
  | some ty =>
    rw [e] at p1
    obtain ⟨q1, q2⟩ := ty_of n1.hr rx e
    refine ⟨vx, .ty u, _, _, subB ty u, rfl, .ty u, q1, kit_ty (kit_all ty q2 u hu), ?_⟩
    have := RP.ok_here (b := V.bl _) p1 n1.hr (.bl _)
    simpa using this
theorem tys_run : ∀ {ts : List String} {es : List Expr}, (∀ u ∈ ts, u ∈ askT) → Paired (fun t e => PE X e (tC (.ty t)) ∧ ∀ es', starEach (e :: es') X.env = (false, eval e X.env) :: starEach es' X.env) ts es → PA X es (fun _ H Q => Q (ts.map V.ty) H)
  | _, _, _, .nil => pa_nil
  | _, _, h, .cons r t => by
    exact (pa_cons r.1 (tys_run (fun u hu => h u (List.mem_cons_of_mem _ hu)) t) (r.2 _)).weak fun σ H Q q => q
theorem me_isiT {ts : List String} {us : List Expr} {k : Nat} {tp : Pos} {p : Pos} {g : Str} (hgn : g = ("isinstance" : Str)) (hg : Gl X g) (hm : X.mg g = none) (hu : ∀ u ∈ ts, u ∈ askT) (hl : ts.length ≤ 1000) (ha : PE X a (tE exc (kx X) W ra)) (hp : Paired (fun t e => PE X e (tC (.ty t)) ∧ ∀ es', starEach (e :: es') X.env = (false, eval e X.env) :: starEach es' X.env) ts us)
    (hs : starEach [a, .Tuple us k tp] X.env = [(false, eval a X.env), (false, eval (.Tuple us k tp) X.env)]) :
    PE X (.Call (.Name g p) [a, .Tuple us k tp] [] pos) (tE exc (kx X) W fun ρ h => (ra ρ h).bind fun x h => ofB (isiop x ts h) h) := by
  subst hgn
  refine (pe_callB call_isiT hg hm (by decide +kernel) (pa_cons ha (pa_cons (pe_tup (tys_run hu hp)) pa_nil rfl) (by rw [hs]; rfl)) (by decide) (by decide) (by rw [hs]; rfl) rfl).weak fun σ H Q q => ?_
  obtain ⟨Z, G, ι, h, ρ, R, S, p⟩ := q
  refine ⟨Z, G, ι, h, ρ, R, S, p.bind fun x h1 G1 ι1 H1 vx n1 rx p1 => ?_⟩
  unfold isiop at p1
  refine ⟨by rw [List.length_map, sizeLine_eq]; omega, fun l hl => ?_⟩
  have n2 : Nx (kx X) Z G1 ι1 H1 (upd G1 l (.tup (ts.map V.ty))) ι1 h1 (upd H1 l (.tup (ts.map V.ty))) := ⟨same_upd (n1.hr.gnone hl), Pre.refl _, n1.hr.laid hl, fun z hz => upd_ne fun e => n1.hr.freshZ hl (e ▸ hz)⟩
  cases e : tyOf h1 x with
  | none => rw [e] at p1; exact p1.elim
  | some ty =>
    rw [e] at p1
    obtain ⟨q1, q2⟩ := ty_of n2.hr (rx.mono n2.same n2.pre) e
    exact ⟨vx, l, _, _, _, _, rfl, upd_same, clsvs ts, q1, kits_any q2 hu, RP.ok_here (b := V.bl _) (p1.later n2) n2.hr (.bl _)⟩
/-! ### methods -/
theorem attrBase_of {o : Expr} {f : Str} {env : Env} {w' : Sem Value} (h : plainO o = true) : attributeBase o f env w' = w' := by
  cases o with
  | Call fn as ks ps =>
    cases fn with
    | Name id q =>
      cases as with
      | nil => cases ks with
        | nil => cases h
        | cons _ _ => rfl
      | cons _ _ => rfl
    | _ => rfl
  | _ => rfl
theorem met_lst {K : Wr} {Z : List Addr} {G : Hp} {ι : List Addr} {h : MH} {H : Hp} (R : HR K Z G ι h H) {n : Nat} {v : V} {xs : List PV} (rx : RV K G ι (.ref n) v) (e : h[n]? = some (.lst xs)) : tyV K.K "list" v H := by
  obtain ⟨a, vs, rfl, _, hH, _⟩ := ref_lst R rx e
  exact Or.inl ⟨rfl, _, Or.inl (Or.inl hH)⟩
theorem me_met {o y : Expr} {m : Mt} {name : Str} {apos cpos : Pos} {rs : Env' → MH → Res (List PV)} (hn : mtN m = name) (hpo : plainO o = true) (hline : apos.endLine = cpos.line) (ho : PE X o (tE exc (kx X) W ra)) (ha : PA X [y] (tA exc (kx X) W rs)) (hs : starEach [y] X.env = [(false, eval y X.env)]) (hl : ∀ ρ h xs h', rs ρ h = .ok xs h' → xs.length = 1) :
    PE X (.Call (.Attribute o name apos) [y] [] cpos) (tE exc (kx X) W fun ρ h => (ra ρ h).bind fun x h => if metok m x h = true then (rs ρ h).bind fun xs h => metop m x xs h else .stuck) := by
  subst hn
  have hb : attributeBase o (mtN m) X.env (eval o X.env) = eval o X.env := attrBase_of hpo
  have hfew : ((backTo cpos (starEach [y] X.env)).all (fun x => !x.1) && (backToKw cpos (keywordEach [] X.env)).all (fun x => x.1.isSome)
      && decide (([y] : List Expr).length + ([] : List Keyword).length + (if ([] : List Keyword).isEmpty then 0 else 1) < 30)) = true := by rw [hs]; rfl
  have hli : (apos.endLine == cpos.line) = true := by rw [hline]; exact beq_self_eq_true _
  have go : ∀ {r : V → List V → Hp → VK → Prop}, (∀ {Z : List Addr} {G : Hp} {ι : List Addr} {h : MH} {H : Hp} {Q : VK} {E : XK} {x z : PV} {v w : V}, HR (kx X) Z G ι h H → RV (kx X) G ι x v → RV (kx X) G ι z w → RP exc (kx X) (rV (kx X)) Z G ι H (metop m x [z] h) Q E → r v [w] H Q) →
      ∀ σ H Q, tE exc (kx X) W (fun ρ h => (ra ρ h).bind fun x h => if metok m x h = true then (rs ρ h).bind fun xs h => metop m x xs h else .stuck) σ H Q → tBM X.K "list" r (tE exc (kx X) W ra) (tA exc (kx X) W rs) σ H Q := by
    intro r k σ H Q q
    obtain ⟨Z, G, ι, h, ρ, R, S, p⟩ := q
    refine ⟨Z, G, ι, h, ρ, R, S, p.bind fun x h1 G1 ι1 H1 vx n1 rx p1 => ?_⟩
    split at p1
    · rename_i hk
      refine ⟨?_, Z, G1, ι1, h1, ρ, n1.hr, S.mono n1.same n1.pre, ?_⟩
      · unfold metok at hk
        split at hk
        · split at hk
          · rename_i e
            exact met_lst n1.hr rx e
          · cases hk
        · cases hk
      · have len := hl ρ h1
        generalize rs ρ h1 = rr at p1 len
        cases rr with
        | stuck => exact p1
        | exn c v h => exact p1
        | ok xs h2 =>
          intro G2 ι2 H2 vs n2 rv
          have z := len xs h2 rfl
          obtain ⟨z1, rfl⟩ := List.length_eq_one_iff.mp z
          obtain ⟨w1, ws, rfl, rw1, rws⟩ := rv.cons_inv
          rw [rws.nil_inv]
          exact k n2.hr (rx.mono n2.same n2.pre) rw1 (RP.later p1 n2)
    · exact p1.elim
  cases m with
  | append => exact (pe_bm PySem.F.plainAttrs_list PySem.F.slot_list_append PySem.F.type_list_append mt_append ho ha hb hfew hli hs rfl).weak fun σ H Q q => go (fun R rx ry p => mets_append R rx ry p) σ H Q q
  | extend => exact (pe_bm PySem.F.plainAttrs_list PySem.F.slot_list_extend PySem.F.type_list_extend mt_extR ho ha hb hfew hli hs rfl).weak fun σ H Q q => go (fun R rx ry p => mets_extend R rx ry p) σ H Q q
/-! ### tests -/
theorem mt_not {r : Env' → MH → Res PV} (ha : PT X a (tT exc (kx X) W (truR r))) : PT X (.UnaryOp .Not a pos) (tT exc (kx X) W (truR fun ρ h => (r ρ h).bind fun x h => ofB ((truthy h x).map (!·)) h)) := by
  refine (pt_not ha).weak fun σ H Q q => ?_
  obtain ⟨Z, G, ι, h, ρ, R, S, p⟩ := q
  refine ⟨Z, G, ι, h, ρ, R, S, ?_⟩
  unfold truR at p
  unfold truR
  rw [Res.assoc] at p
  have e : ((r ρ h).bind fun x h => (ofB ((truthy h x).map (!·)) h).bind fun x h => match truthy h x with
      | some b => .ok b h
      | none => .stuck) = ((r ρ h).bind fun x h => match truthy h x with
      | some b => .ok b h
      | none => .stuck).bind fun b h => .ok (!b) h := by
    rw [Res.assoc]
    congr 1
    funext x h
    cases truthy h x <;> rfl
  rw [e] at p
  refine p.bind fun t h1 G1 ι1 H1 t' n1 et p1 => ?_
  cases et
  exact RP.ok_here p1 n1.hr rfl
theorem mt_plain {r : Env' → MH → Res PV} (ha : PE X a (tE exc (kx X) W r)) (he : ∀ whole, isTrue a X.env whole = (do let v ← whole; standAt a.pos; holding [v] (PySem.truthy v))) : PT X a (tT exc (kx X) W (truR r)) := by
  refine (pt_truth ha he).weak fun σ H Q q => ?_
  obtain ⟨Z, G, ι, h, ρ, R, S, p⟩ := q
  refine ⟨Z, G, ι, h, ρ, R, S, p.bind fun x h1 G1 ι1 H1 vx n1 rx p1 => ?_⟩
  cases e : truthy h1 x with
  | none => rw [e] at p1; exact p1.elim
  | some k =>
    rw [e] at p1
    exact ⟨k, tru_of n1.hr rx e, RP.ok_here p1 n1.hr rfl⟩
theorem mw_and1 {r : Env' → MH → Res PV} (ha : PT X a (tT exc (kx X) W (truR r))) : PW X (.BoolOp .And [a] pos) (tT exc (kx X) W (truR r)) := pw_and1 ha
theorem mw_or1 {r : Env' → MH → Res PV} (ha : PT X a (tT exc (kx X) W (truR r))) : PW X (.BoolOp .Or [a] pos) (tT exc (kx X) W (truR r)) := pw_or1 ha
theorem mw_and {e : Expr} {rest : List Expr} {r rr : Env' → MH → Res PV} (ha : PT X a (tT exc (kx X) W (truR r))) (hb : PW X (.BoolOp .And (e :: rest) pos) (tT exc (kx X) W (truR rr))) :
    PW X (.BoolOp .And (a :: e :: rest) pos) (tT exc (kx X) W (truR fun ρ h => (r ρ h).bind fun x h => match truthy h x with
      | some true => rr ρ h
      | some false => .ok x h
      | none => .stuck)) := by
  refine (pw_and ha hb).weak fun σ H Q q => ?_
  obtain ⟨Z, G, ι, h, ρ, R, S, p⟩ := q
  refine ⟨Z, G, ι, h, ρ, R, S, ?_⟩
  unfold truR at p
  unfold truR
  rw [Res.assoc] at p
  have e : ((r ρ h).bind fun x h => (match truthy h x with
      | some true => rr ρ h
      | some false => .ok x h
      | none => .stuck : Res PV).bind fun x h => match truthy h x with
      | some b => .ok b h
      | none => .stuck) = ((r ρ h).bind fun x h => match truthy h x with
      | some b => .ok b h
      | none => .stuck).bind fun b h => if b = true then truR rr ρ h else .ok false h := by
    rw [Res.assoc]
    congr 1
    funext x h
    cases e : truthy h x with
    | none => rfl
    | some t => cases t with
      | true => rfl
      | false =>
        show (match truthy h x with
          | some b => Res.ok b h
          | none => .stuck) = Res.ok false h
        rw [e]
  rw [e] at p
  refine p.bind fun t h1 G1 ι1 H1 t' n1 et p1 => ?_
  cases et
  cases t with
  | true => exact ⟨Z, G1, ι1, h1, ρ, n1.hr, S.mono n1.same n1.pre, p1⟩
  | false => exact RP.ok_here p1 n1.hr rfl
theorem mw_or {e : Expr} {rest : List Expr} {r rr : Env' → MH → Res PV} (ha : PT X a (tT exc (kx X) W (truR r))) (hb : PW X (.BoolOp .Or (e :: rest) pos) (tT exc (kx X) W (truR rr))) :
    PW X (.BoolOp .Or (a :: e :: rest) pos) (tT exc (kx X) W (truR fun ρ h => (r ρ h).bind fun x h => match truthy h x with
      | some true => .ok x h
      | some false => rr ρ h
      | none => .stuck)) := by
  refine (pw_or ha hb).weak fun σ H Q q => ?_
  obtain ⟨Z, G, ι, h, ρ, R, S, p⟩ := q
  refine ⟨Z, G, ι, h, ρ, R, S, ?_⟩
  unfold truR at p
  unfold truR
  rw [Res.assoc] at p
  have e : ((r ρ h).bind fun x h => (match truthy h x with
      | some true => .ok x h
      | some false => rr ρ h
      | none => .stuck : Res PV).bind fun x h => match truthy h x with
      | some b => .ok b h
      | none => .stuck) = ((r ρ h).bind fun x h => match truthy h x with
      | some b => .ok b h
      | none => .stuck).bind fun b h => if b = true then .ok true h else truR rr ρ h := by
    rw [Res.assoc]
    congr 1
    funext x h
    cases e : truthy h x with
    | none => rfl
    | some t => cases t with
      | false => rfl
      | true =>
        show (match truthy h x with
          | some b => Res.ok b h
          | none => .stuck) = Res.ok true h
        rw [e]
  rw [e] at p
  refine p.bind fun t h1 G1 ι1 H1 t' n1 et p1 => ?_
  cases et
  cases t with
  | true => exact RP.ok_here p1 n1.hr rfl
  | false => exact ⟨Z, G1, ι1, h1, ρ, n1.hr, S.mono n1.same n1.pre, p1⟩
/-- a conditional expression as a test -/
theorem pt_ifExp {tc ta tb : TT} (hc : PT X c tc) (ha : PT X a ta) (hb : PT X b tb) : PT X (.IfExp c a b pos) (fun σ H Q => tc σ H fun k H1 => if k = true then ta σ H1 Q else tb σ H1 Q) := by
  refine ⟨fun pins s σ H Q I h => ?_⟩
  show wpAny _ _ (PySem.isTrue (.IfExp c a b pos) X.env _) _ _ _
  unfold PySem.isTrue
  refine wpAny_bind (thn (hc.run pins s σ H _ I h) fun d s1 ⟨H1, I1, q1⟩ => ?_)
  cases d with
  | true => exact ha.run pins s1 σ H1 Q I1 q1
  | false => exact hb.run pins s1 σ H1 Q I1 q1
theorem mt_ifx {r ra' rb' : Env' → MH → Res PV} (hc : PT X c (tT exc (kx X) W (truR r))) (ha : PT X a (tT exc (kx X) W (truR ra'))) (hb : PT X b (tT exc (kx X) W (truR rb'))) :
    PT X (.IfExp c a b pos) (tT exc (kx X) W (truR fun ρ h => (r ρ h).bind fun x h => match truthy h x with
      | some true => ra' ρ h
      | some false => rb' ρ h
      | none => .stuck)) := by
  refine (pt_ifExp hc ha hb).weak fun σ H Q q => ?_
  obtain ⟨Z, G, ι, h, ρ, R, S, p⟩ := q
  refine ⟨Z, G, ι, h, ρ, R, S, ?_⟩
  unfold truR at p
  unfold truR
  rw [Res.assoc] at p
  have e : ((r ρ h).bind fun x h => (match truthy h x with
      | some true => ra' ρ h
      | some false => rb' ρ h
      | none => .stuck : Res PV).bind fun x h => match truthy h x with
      | some b => .ok b h
      | none => .stuck) = ((r ρ h).bind fun x h => match truthy h x with
      | some b => .ok b h
      | none => .stuck).bind fun b h => if b = true then truR ra' ρ h else truR rb' ρ h := by
    rw [Res.assoc]
    congr 1
    funext x h
    cases truthy h x with
    | none => rfl
    | some t => cases t <;> rfl
  rw [e] at p
  refine p.bind fun t h1 G1 ι1 H1 t' n1 et p1 => ?_
  cases et
  cases t with
  | true => exact ⟨Z, G1, ι1, h1, ρ, n1.hr, S.mono n1.same n1.pre, p1⟩
  | false => exact ⟨Z, G1, ι1, h1, ρ, n1.hr, S.mono n1.same n1.pre, p1⟩
end
end Mx


set_option Elab.async false
set_option linter.all false
set_option maxRecDepth 100000
set_option maxHeartbeats 4000000
/-! Targets, what loops go through, comprehensions. -/
namespace Mx
open PySem PySem.Spec PyProof.Rows L2

/-! ### targets -/
section
variable (K : Wr)
def tG (g : Ag) : TG := fun v σ H Q => ∃ Z G ι h ρ x ρ', HR K Z G ι h H ∧ SR K G ι ρ σ ∧ RV K G ι x v ∧ bindG g x ρ h = some ρ' ∧ ∀ σ', SR K G ι ρ' σ' → σ'.length = σ.length → (∀ i, i ∉ g.slots → σ'[i]? = σ[i]?) → Q σ' H
def tGs (gs : Ags) : TGs := fun vs σ H Q => ∃ Z G ι h ρ xs ρ', HR K Z G ι h H ∧ SR K G ι ρ σ ∧ RVs K G ι xs vs ∧ bindGs gs xs ρ h = some ρ' ∧ ∀ σ', SR K G ι ρ' σ' → σ'.length = σ.length → (∀ i, i ∉ Ag.slots.gsl gs → σ'[i]? = σ[i]?) → Q σ' H
end
theorem SR.set {K : Wr} {G : Hp} {ι : List Addr} {ρ : Env'} {σ : L2.St} {i : Nat} {x : PV} {v : V} (S : SR K G ι ρ σ) (r : RV K G ι x v) : SR K G ι (ρ.set i (some x)) (σ.set i (some v)) := by
  refine ⟨by rw [List.length_set, List.length_set]; exact S.1, fun j y e => ?_⟩
  by_cases hj : i = j
  · subst hj
    have hl : i < ρ.length := by
      have := (List.getElem?_eq_some_iff.mp e).1
      rwa [List.length_set] at this
    rw [List.getElem?_set_self hl] at e
    cases e
    exact ⟨v, List.getElem?_set_self (by rw [← S.1]; exact hl), r⟩
  · rw [List.getElem?_set_ne hj] at e
    rw [List.getElem?_set_ne hj]
    exact S.2 j y e
theorem SR.clear {K : Wr} {G : Hp} {ι : List Addr} {ρ : Env'} {σ : L2.St} (i : Nat) (S : SR K G ι ρ σ) : SR K G ι (ρ.set i none) (σ.set i none) := by
  refine ⟨by rw [List.length_set, List.length_set]; exact S.1, fun j y e => ?_⟩
  by_cases hj : i = j
  · subst hj
    by_cases hl : i < ρ.length
    · rw [List.getElem?_set_self hl] at e; cases e
    · rw [List.getElem?_eq_none (by rw [List.length_set]; omega)] at e; cases e
  · rw [List.getElem?_set_ne hj] at e
    rw [List.getElem?_set_ne hj]
    exact S.2 j y e
theorem SR.wipe {K : Wr} {G : Hp} {ι : List Addr} {ρ : Env'} {σ : L2.St} (S : SR K G ι ρ σ) : ∀ vs : List Nat, SR K G ι (wipeP ρ vs) (L2.wipe σ vs)
  | [] => S
  | v :: vs => by
    unfold wipeP L2.wipe
    exact (SR.wipe S vs).clear v
theorem wipe_at {σ : L2.St} {i : Nat} : ∀ {vs : List Nat}, i ∈ vs → (L2.wipe σ vs)[i]? = if i < σ.length then some none else none
  | v :: vs, h => by
    unfold L2.wipe
    by_cases e : v = i
    · subst e
      rw [List.getElem?_set, if_pos rfl, wipe_length]
    · rw [List.getElem?_set_ne e]
      rcases List.mem_cons.mp h with rfl | h
      · exact absurd rfl e
      · exact wipe_at h
theorem wipe_same {σ τ : L2.St} {vs : List Nat} (hl : τ.length = σ.length) (h : ∀ i, i ∉ vs → τ[i]? = σ[i]?) : L2.wipe τ vs = L2.wipe σ vs := by
  apply List.ext_getElem?
  intro i
  by_cases hi : i ∈ vs
  · rw [wipe_at hi, wipe_at hi, hl]
  · rw [wipe_out hi, wipe_out hi]; exact h i hi
theorem wipe_wipe {σ : L2.St} {vs : List Nat} : L2.wipe (L2.wipe σ vs) vs = L2.wipe σ vs := wipe_same (wipe_length _ _) fun i hi => wipe_out hi

section
variable {X : Cx} {L : Lk}
theorem star_of {N : List Str} {fn : Str → Bool} {sc : Scope} {g : Ag} {e : Expr} (hm : mG L N fn sc g e = true) (es : List Expr) : assignEach (e :: es) X.env = (false, assign e X.env) :: assignEach es X.env := by
  cases g with
  | nm i => cases e <;> first | rfl | cases hm
  | tp gs => cases e <;> first | rfl | cases hm
theorem loc_of {sc : Scope} {x : Str} (h : locB sc x = true) : Loc sc x := by
  unfold locB at h
  split at h
  · exact .inl (by assumption)
  · exact .inr (by assumption)
  · cases h
theorem onlyLoc_of {sc : Scope} {x : Str} (h : onlyLocB sc x = true) : sc.names.lookup x = some .local := by
  unfold onlyLocB at h
  split at h
  · assumption
  · cases h
theorem vis_of {sc : Scope} {x : Str} (h : visB sc x = true) : Vis sc x := by
  unfold visB at h
  split at h
  · exact .inl (by assumption)
  · exact .inr (.inl (by assumption))
  · exact .inr (.inr (by assumption))
  · cases h
theorem gl_of {X : Cx} {x : Str} (h : gloB X.env.scope x = true) : Gl X x ∧ (x == ("__debug__" : Str)) = false := by
  unfold gloB at h
  split at h
  · refine ⟨by assumption, ?_⟩
    simpa using h
  · cases h
theorem bindGs_len {N : List Str} {fn : Str → Bool} {sc : Scope} {h : MH} : ∀ {gs : Ags} {xs : List Expr} {ys : List PV} {ρ ρ' : Env'}, mGs L N fn sc gs xs = true → bindGs gs ys ρ h = some ρ' → ys.length = xs.length
  | .nil, [], [], _, _, _, _ => rfl
  | .nil, _ :: _, _, _, _, h1, _ => by cases h1
  | .nil, [], _ :: _, _, _, _, h2 => by simp [bindGs] at h2
  | .cons g gs, [], _, _, _, h1, _ => by cases h1
  | .cons g gs, _ :: _, [], _, _, _, h2 => by simp [bindGs] at h2
  | .cons g gs, x :: xs, y :: ys, ρ, ρ', h1, h2 => by
    unfold mGs at h1
    rw [Bool.and_eq_true] at h1
    unfold bindGs at h2
    split at h2
    · simp only [List.length_cons]; rw [bindGs_len h1.2 h2]
    · cases h2
mutual
theorem sG (hc : X.calm = true) (hN : X.N.Nodup) {fn : Str → Bool} (hf : ∀ x, fn x = true → X.fn x = true) : ∀ {g : Ag} {e : Expr}, mG L X.N fn X.env.scope g e = true → PG X e (tG (kx X) g)
  | .nm i, e, hm => by
    cases e <;> try (cases hm; done)
    rename_i x pos
    simp only [mG, Bool.and_eq_true, Bool.or_eq_true, decide_eq_true_eq] at hm
    obtain ⟨⟨h1, h2⟩, h3⟩ := hm
    have hf' : X.fn x = true ∨ X.env.scope.names.lookup x = some .local := h3.imp (hf x) onlyLoc_of
    refine ⟨fun pins s σ H v u Q I r q => (pg_name hN h1 (loc_of h2) hf').run pins s σ H v u Q I r ?_⟩
    obtain ⟨Z, G, ι, h, ρ, x, ρ', R, S, rx, hb, k⟩ := q
    unfold bindG at hb
    split at hb
    · cases hb
      refine k _ (S.set rx) (List.length_set ..) fun j hj => ?_
      have : i ≠ j := fun e => hj (by subst e; exact List.mem_singleton.mpr rfl)
      exact List.getElem?_set_ne this
    · cases hb
  | .tp gs, e, hm => by
    cases e <;> try (cases hm; done)
    rename_i xs kk pos
    have hm' : mGs L X.N fn X.env.scope gs xs = true := hm
    obtain ⟨h1, h2, h3⟩ := sGs hc hN hf hm'
    refine ⟨fun pins s σ H v u Q I r q => (pg_tup (n := xs.length) hc h1 h2 h3).run pins s σ H v u Q I r ?_⟩
    obtain ⟨Z, G, ι, h, ρ, x, ρ', R, S, rx, hb, k⟩ := q
    unfold bindG at hb
    split at hb
    · rename_i ys
      obtain ⟨a, vs, rfl, hs, rvs⟩ := rx.tup_inv
      refine ⟨a, vs, rfl, Same.seqT R.sub hs, ?_, Z, G, ι, h, ρ, ys, ρ', R, S, rvs, hb, k⟩
      rw [← rvs.length]
      exact bindGs_len hm' hb
    · cases hb
theorem sGs (hc : X.calm = true) (hN : X.N.Nodup) {fn : Str → Bool} (hf : ∀ x, fn x = true → X.fn x = true) : ∀ {gs : Ags} {es : List Expr}, mGs L X.N fn X.env.scope gs es = true → PGs X es (tGs (kx X) gs) ∧ (assignEach es X.env).length = es.length ∧ (assignEach es X.env).findIdx? (·.1) = none
  | .nil, es, hm => by
    cases es with
    | cons _ _ => cases hm
    | nil =>
      refine ⟨⟨fun pins s σ H vs us Q I r q => pgs_nil.run pins s σ H vs us Q I r ?_⟩, rfl, rfl⟩
      obtain ⟨Z, G, ι, h, ρ, xs, ρ', R, S, rx, hb, k⟩ := q
      cases xs with
      | cons _ _ => simp [bindGs] at hb
      | nil =>
        simp only [bindGs, Option.some.injEq] at hb
        subst hb
        exact ⟨rx.nil_inv, k σ S rfl fun _ _ => rfl⟩
  | .cons g gs, es, hm => by
    cases es with
    | nil => cases hm
    | cons e es =>
      unfold mGs at hm
      rw [Bool.and_eq_true] at hm
      have h1 := sG hc hN hf hm.1
      obtain ⟨h2, h3, h4⟩ := sGs hc hN hf hm.2
      have hst := star_of (X := X) hm.1 es
      refine ⟨⟨fun pins s σ H vs us Q I r q => (pgs_cons h1 h2 (by rw [hst]; rfl)).run pins s σ H vs us Q I r ?_⟩, by rw [hst, List.length_cons, List.length_cons, h3], by rw [hst, List.findIdx?_cons, if_neg (by simp), h4]; rfl⟩
      obtain ⟨Z, G, ι, h, ρ, xs, ρ', R, S, rx, hb, k⟩ := q
      cases xs with
      | nil => simp [bindGs] at hb
      | cons x xs =>
        obtain ⟨v, ws, rfl, r1, r2⟩ := rx.cons_inv
        unfold bindGs at hb
        split at hb
        · rename_i ρ1 h5
          refine ⟨v, ws, rfl, Z, G, ι, h, ρ, x, ρ1, R, S, r1, h5, fun σ1 S1 l1 k1 => ?_⟩
          refine ⟨Z, G, ι, h, ρ1, xs, ρ', R, S1, r2, hb, fun σ2 S2 l2 k2 => k σ2 S2 (l2.trans l1) fun i hi => ?_⟩
          have e : Ag.slots.gsl (.cons g gs) = g.slots ++ Ag.slots.gsl gs := rfl
          rw [e, List.mem_append, not_or] at hi
          exact (k2 i hi.2).trans (k1 i hi.1)
        · cases hb
end
end

/-! ### what loops go through -/
/-- an iterator serves the items while the lists stay -/
structure Jok (K : Wr) (G0 : Hp) (ι0 : List Addr) (s : Src) (J : It) : Prop where
  stop : ∀ Z G ι h H i, Same G0 G → Pre ι0 ι → HR K Z G ι h H → chk s.1 h → s.2.length ≤ i → J.stop i H
  go : ∀ Z G ι h H i, Same G0 G → Pre ι0 ι → HR K Z G ι h H → chk s.1 h → i < s.2.length → J.go i H
  yld : ∀ Z G ι h H i v H' x, Same G0 G → Pre ι0 ι → HR K Z G ι h H → chk s.1 h → s.2[i]? = some x → J.yld i H v H' → ∃ G' ι', Nx K Z G ι H G' ι' h H' ∧ RV K G' ι' x v
abbrev rJ (K : Wr) : Hp → List Addr → Src → It → Prop := fun G ι s J => Jok K G ι s J
def tI (exc : List Str) (K : Wr) (W : WX) (r : Env' → MH → Res Src) : TI := fun σ H R => ∃ Z G ι h ρ, HR K Z G ι h H ∧ SR K G ι ρ σ ∧ RP exc K (rJ K) Z G ι H (r ρ h) R (fun cls d H' => W cls d σ H')
theorem _root_.L2.PI.weak {X : Cx} {tg e : Expr} {t t' : TI} (h : PI X tg e t) (k : ∀ σ H Q, t' σ H Q → t σ H Q) : PI X tg e t' := ⟨fun pins s σ H Q I q => h.run pins s σ H Q I (k σ H Q q)⟩
/-- an iterator that reads a row as it stands -/
theorem jok_of {K : Wr} {G0 : Hp} {ι0 : List Addr} {s : Src} {J : It} (rd : ∀ Z G ι h H, Same G0 G → Pre ι0 ι → HR K Z G ι h H → chk s.1 h → ∃ vs, RVs K G ι s.2 vs ∧ (∀ i, vs.length ≤ i → J.stop i H) ∧ (∀ i, i < vs.length → J.go i H) ∧ ∀ i v H', J.yld i H v H' → i < vs.length → H' = H ∧ vs[i]? = some v) : Jok K G0 ι0 s J where
  stop := fun Z G ι h H i a b c d e => by
    obtain ⟨vs, r, k1, k2, k3⟩ := rd Z G ι h H a b c d
    exact k1 i (by rw [← r.length]; exact e)
  go := fun Z G ι h H i a b c d e => by
    obtain ⟨vs, r, k1, k2, k3⟩ := rd Z G ι h H a b c d
    exact k2 i (by rw [← r.length]; exact e)
  yld := fun Z G ι h H i v H' x a b c d e y => by
    obtain ⟨vs, r, k1, k2, k3⟩ := rd Z G ι h H a b c d
    have hi : i < vs.length := by rw [← r.length]; exact (List.getElem?_eq_some_iff.mp e).1
    obtain ⟨rfl, q⟩ := k3 i v H' y hi
    obtain ⟨w, q2, q3⟩ := r.get e
    rw [q] at q2; cases q2
    exact ⟨G, ι, Nx.refl c, q3⟩
theorem seqL_jok {K : Wr} {G0 : Hp} {ι0 : List Addr} {s : Src} {a : Addr} (rd : ∀ Z G ι h H, Same G0 G → Pre ι0 ι → HR K Z G ι h H → chk s.1 h → ∃ vs, RVs K G ι s.2 vs ∧ SqL K.K H a vs) : Jok K G0 ι0 s (Itl K.K a) :=
  jok_of fun Z G ι h H x y z w => by
    obtain ⟨vs, r, q⟩ := rd Z G ι h H x y z w
    exact ⟨vs, r, fun i hi => ⟨vs, q, hi⟩, fun i hi => ⟨vs, vs[i], q, List.getElem?_eq_getElem hi⟩, fun i v H' y hi => ⟨y.1, y.2 vs q⟩⟩
theorem seqT_jok {K : Wr} {G0 : Hp} {ι0 : List Addr} {s : Src} {a : Addr} (rd : ∀ Z G ι h H, Same G0 G → Pre ι0 ι → HR K Z G ι h H → chk s.1 h → ∃ vs, RVs K G ι s.2 vs ∧ SqT K.K H a vs) : Jok K G0 ι0 s (Itt K.K a) :=
  jok_of fun Z G ι h H x y z w => by
    obtain ⟨vs, r, q⟩ := rd Z G ι h H x y z w
    exact ⟨vs, r, fun i hi => ⟨vs, q, hi⟩, fun i hi => ⟨vs, vs[i], q, List.getElem?_eq_getElem hi⟩, fun i v H' y hi => ⟨y.1, y.2 vs q⟩⟩
theorem str_jok {K : Wr} {G0 : Hp} {ι0 : List Addr} {x : Str} : Jok K G0 ι0 ([], x.cps.toList.map fun c => PV.str ⟨#[c]⟩) (Its x) :=
  jok_of fun Z G ι h H _ _ _ _ => by
    have e : ∀ l : List Nat, RVs K G ι (l.map fun c => PV.str ⟨#[c]⟩) (l.map fun c => V.str ⟨#[c]⟩) := fun l => by
      induction l with
      | nil => exact .nil
      | cons c l ih => exact .cons (.str _) ih
    refine ⟨x.cps.toList.map fun c => V.str ⟨#[c]⟩, e _, fun i hi => ?_, fun i hi => ?_, fun i v H' y hi => ?_⟩
    · simpa [Its] using hi
    · simpa [Its] using hi
    · obtain ⟨e1, c, e2, e3⟩ := y
      refine ⟨e1, ?_⟩
      subst e3
      rw [List.getElem?_map, Array.getElem?_toList, e2]
      rfl
theorem rng_jok {K : Wr} {G0 : Hp} {ι0 : List Addr} {lo : Int} {n : Nat} : Jok K G0 ι0 ([], (List.range n).map fun (k : Nat) => PV.int (lo + (k : Int))) (Itr lo n) :=
  jok_of fun Z G ι h H _ _ _ _ => by
    have e : ∀ l : List Nat, RVs K G ι (l.map fun (k : Nat) => PV.int (lo + (k : Int))) (l.map fun (k : Nat) => V.int (lo + (k : Int))) := fun l => by
      induction l with
      | nil => exact .nil
      | cons c l ih => exact .cons (.int _) ih
    refine ⟨(List.range n).map fun (k : Nat) => V.int (lo + (k : Int)), e _, fun i hi => ?_, fun i hi => ?_, fun i v H' y hi => ?_⟩
    · simpa [Itr] using hi
    · simpa [Itr] using hi
    · obtain ⟨e1, e2⟩ := y
      refine ⟨e1, ?_⟩
      subst e2
      have hi' : i < n := by simpa using hi
      rw [List.getElem?_map, List.getElem?_range hi']
      rfl
section
variable {X : Cx} {tg : Expr} {exc : List Str} {W : WX}
/-- over a list, a tuple, a text -/
def iAny (K : PySem.W.Frag) (tl : TE) : TI := fun σ H R => tl σ H fun x H1 => (∃ a, x = .ref a ∧ (((∃ xs, SqL K H1 a xs) ∧ R (Itl K a) H1) ∨ ((∃ xs, SqT K H1 a xs) ∧ R (Itt K a) H1))) ∨ ∃ y, x = .str y ∧ R (Its y) H1
theorem pi_any {l : Expr} {tl : TE} (hl : PE X l tl) : PI X tg l (iAny X.K tl) := by
  refine ⟨fun pins s σ H R I h => ?_⟩
  refine thn (hl.run pins s σ H _ I h) fun v s1 ⟨x, H1, I1, r1, q1⟩ => ?_
  rcases q1 with ⟨a, e, ⟨⟨xs, hq⟩, q⟩ | ⟨⟨xs, hq⟩, q⟩⟩ | ⟨y, e, q⟩
  · subst e
    cases r1
    obtain ⟨its, rv, p, hz⟩ := I1.list hq
    refine wpAny_pyIter_list p.isList ?_
    refine ⟨s1.heap.objs.size, [s1.heap.objs.size], _, _, H1, rfl, I1.kept (t' := s1.toks) fun b o e => Heap.get?_push_of_some _ e, turn_list a _, ⟨_, Heap.get?_push_size _ rfl, rfl, rfl⟩, fun b hb => ?_, q⟩
    have e : b = s1.heap.objs.size := by simpa using hb
    subst e
    exact I1.fpOk (Nat.le_refl _) (I1.hok.fresh (Nat.le_refl _))
  · subst e
    cases r1
    obtain ⟨its, rv, p, hz⟩ := I1.tuple hq
    refine wpAny_pyIter_tuple (show s1.heap.IsTuple a its.toArray from p) ?_
    refine ⟨s1.heap.objs.size, [s1.heap.objs.size], _, _, H1, rfl, I1.kept (t' := s1.toks) fun b o e => Heap.get?_push_of_some _ e, turn_tuple a _, ⟨_, Heap.get?_push_size _ rfl, rfl, rfl⟩, fun b hb => ?_, q⟩
    have e : b = s1.heap.objs.size := by simpa using hb
    subst e
    exact I1.fpOk (Nat.le_refl _) (I1.hok.fresh (Nat.le_refl _))
  · subst e
    obtain ⟨t, rfl⟩ := r1
    cases ha : y.cps.all (· < 128)
    · exact wpAny_pyIter_wide ha (pi_one (tk := s1.toks) I1 _ (turn_str _ y t "str_iterator" (.inr rfl)) ⟨_, Heap.get?_push_size _ rfl, rfl, rfl⟩ q)
    · exact wpAny_pyIter_ascii ha (pi_one (tk := s1.toks) I1 _ (turn_str _ y t "str_ascii_iterator" (.inl rfl)) ⟨_, Heap.get?_push_size _ rfl, rfl, rfl⟩ q)
theorem mi_any {l : Expr} {r : Env' → MH → Res PV} (hl : PE X l (tE exc (kx X) W r)) : PI X tg l (tI exc (kx X) W fun ρ h => (r ρ h).bind fun x h => match src x h with
    | some s => .ok s h
    | none => .stuck) := by
  refine (pi_any hl).weak fun σ H Q q => ?_
  obtain ⟨Z, G, ι, h, ρ, R, S, p⟩ := q
  refine ⟨Z, G, ι, h, ρ, R, S, p.bind fun x h1 G1 ι1 H1 vx n1 rx p1 => ?_⟩
  split at p1
  · rename_i s es
    unfold src at es
    split at es
    · cases es
      obtain ⟨a, vs, rfl, hs, rvs⟩ := rx.tup_inv
      refine .inl ⟨a, rfl, .inr ⟨⟨vs, Same.seqT n1.hr.sub hs⟩, RP.ok_here p1 n1.hr (seqT_jok fun Z' G' ι' h' H' a1 b1 c1 d1 => ⟨vs, rvs.mono a1 b1, Same.seqT (a1.trans c1.sub) hs⟩)⟩⟩
    · cases es
      obtain ⟨a, vs, rfl, hs, rvs⟩ := rx.lst_inv
      refine .inl ⟨a, rfl, .inl ⟨⟨vs, .inl (rd_same n1.hr.sub hs)⟩, RP.ok_here p1 n1.hr (seqL_jok fun Z' G' ι' h' H' a1 b1 c1 d1 => ⟨vs, rvs.mono a1 b1, .inl (rd_same (a1.trans c1.sub) hs)⟩)⟩⟩
    · rename_i y
      cases es
      have := rx.str_inv
      subst this
      exact .inr ⟨y, rfl, RP.ok_here p1 n1.hr str_jok⟩
    · rename_i n
      split at es
      · rename_i xs e
        cases es
        obtain ⟨a, vs, rfl, hn, hH, rvs⟩ := ref_lst n1.hr rx e
        refine .inl ⟨a, rfl, .inl ⟨⟨vs, .of hH⟩, RP.ok_here p1 n1.hr (seqL_jok fun Z' G' ι' h' H' a1 b1 c1 d1 => ?_)⟩⟩
        have e' := d1 (n, xs) (List.mem_singleton.mpr rfl)
        obtain ⟨a', vs', ea, hn', hH', rvs'⟩ := ref_lst c1 (.ref (b1 _ _ hn)) e'
        cases ea
        exact ⟨vs', rvs', .of hH'⟩
      · cases es
    · cases es
  · exact p1.elim
theorem mi_range1 {a : Expr} {p pos : Pos} {r : Env' → MH → Res PV} (hg : Gl X "range") (hm : X.mg "range" = none) (ha : PE X a (tE exc (kx X) W r)) (hs : starEach [a] X.env = [(false, eval a X.env)]) :
    PI X tg (.Call (.Name "range" p) [a] [] pos) (tI exc (kx X) W fun ρ h => (r ρ h).bind fun x h => match x with
    | .int j => if -(2 ^ 62) ≤ j ∧ j < 2 ^ 62 then .ok ([], (List.range j.toNat).map fun (k : Nat) => PV.int (k : Int)) h else .stuck
    | _ => .stuck) := by
  refine (pi_range1 hg hm (pa_cons ha pa_nil (by rw [hs]; rfl)) hs).weak fun σ H Q q => ?_
  obtain ⟨Z, G, ι, h, ρ, R, S, p⟩ := q
  refine ⟨Z, G, ι, h, ρ, R, S, p.bind fun x h1 G1 ι1 H1 vx n1 rx p1 => ?_⟩
  split at p1
  · rename_i j
    split at p1
    · rename_i hj
      refine ⟨j, by rw [rx.int_inv], hj.1, hj.2, RP.ok_here p1 n1.hr ?_⟩
      have := rng_jok (K := kx X) (G0 := G1) (ι0 := ι1) (lo := 0) (n := j.toNat)
      simpa using this
    · exact p1.elim
  · exact p1.elim
theorem mi_range2 {a b : Expr} {p pos : Pos} {ra rb : Env' → MH → Res PV} (hg : Gl X "range") (hm : X.mg "range" = none) (ha : PE X a (tE exc (kx X) W ra)) (hb : PE X b (tE exc (kx X) W rb)) (hs : starEach [a, b] X.env = [(false, eval a X.env), (false, eval b X.env)]) (hs2 : starEach [b] X.env = [(false, eval b X.env)]) :
    PI X tg (.Call (.Name "range" p) [a, b] [] pos) (tI exc (kx X) W fun ρ h => (ra ρ h).bind fun x h => (rb ρ h).bind fun y h => match x, y with
    | .int i, .int j => if -(2 ^ 62) ≤ i ∧ i < 2 ^ 62 ∧ -(2 ^ 62) ≤ j ∧ j < 2 ^ 62 then .ok ([], (List.range (j - i).toNat).map fun (k : Nat) => PV.int (i + (k : Int))) h else .stuck
    | _, _ => .stuck) := by
  refine (pi_range2 hg hm (pa_cons ha (pa_cons hb pa_nil (by rw [hs2]; rfl)) (by rw [hs, hs2])) hs hs2).weak fun σ H Q q => ?_
  obtain ⟨Z, G, ι, h, ρ, R, S, p⟩ := q
  refine ⟨Z, G, ι, h, ρ, R, S, p.bind fun x h1 G1 ι1 H1 vx n1 rx p1 => ?_⟩
  refine ⟨Z, G1, ι1, h1, ρ, n1.hr, S.mono n1.same n1.pre, p1.bind fun y h2 G2 ι2 H2 vy n2 ry p2 => ?_⟩
  split at p2
  · rename_i i j
    split at p2
    · rename_i hj
      exact ⟨i, j, by rw [rx.int_inv, ry.int_inv], hj, RP.ok_here p2 n2.hr rng_jok⟩
    · exact p2.elim
  · exact p2.elim
end
end Mx


set_option Elab.async false
set_option linter.all false
set_option maxRecDepth 100000
set_option maxHeartbeats 4000000
/-! Comprehensions. -/
namespace Mx
open PySem PySem.Spec PyProof.Rows L2
section
variable {K : Wr} {Z : List Addr} {G : Hp} {ι : List Addr} {h : MH} {H : Hp}
theorem HR.zless {D : Addr} (R : HR K (D :: Z) G ι h H) : HR K Z G ι h H := ⟨R.sub, R.len, R.nd, R.out, R.obj, fun z hz => R.zz z (List.mem_cons_of_mem _ hz)⟩
/-- a thing that is being made -/
theorem HR.make {D : Addr} {o : HO} (R : HR K Z G ι h H) (hD : H D = none) : HR K (D :: Z) G ι h (upd H D o) := by
  have gp := R.gnone hD
  have np := R.fresh hD
  refine ⟨fun b u q => ?_, R.len, R.nd, R.out, fun n a ob e1 e2 => ?_, fun z hz => ?_⟩
  · rw [upd_ne (ne_of_none q gp)]; exact R.sub b u q
  · have : a ≠ D := fun e => np (e ▸ List.mem_of_getElem? e1)
    rw [upd_ne this]; exact R.obj n a ob e1 e2
  · rcases List.mem_cons.mp hz with rfl | hz
    · exact ⟨gp, np, o, upd_same⟩
    · obtain ⟨z1, z2, u, z3⟩ := R.zz z hz
      have : z ≠ D := fun e => R.freshZ hD (e ▸ hz)
      rw [upd_ne this]
      exact ⟨z1, z2, u, z3⟩
theorem HR.zput {D : Addr} {o : HO} (R : HR K (D :: Z) G ι h H) : HR K (D :: Z) G ι h (upd H D o) := by
  obtain ⟨gp, np, _⟩ := R.zz D List.mem_cons_self
  refine ⟨fun b u q => ?_, R.len, R.nd, R.out, fun n a ob e1 e2 => ?_, fun z hz => ?_⟩
  · rw [upd_ne (ne_of_none q gp)]; exact R.sub b u q
  · have : a ≠ D := fun e => np (e ▸ List.mem_of_getElem? e1)
    rw [upd_ne this]; exact R.obj n a ob e1 e2
  · obtain ⟨z1, z2, u, z3⟩ := R.zz z hz
    by_cases hzD : z = D
    · subst hzD; exact ⟨z1, z2, o, upd_same⟩
    · rw [upd_ne hzD]; exact ⟨z1, z2, u, z3⟩
/-- it is made, it changes no more -/
theorem HR.doneF {D : Addr} {o : HO} (R : HR K (D :: Z) G ι h H) (e : H D = some o) (hz : D ∉ Z) : HR K Z (upd G D o) ι h H := by
  obtain ⟨gp, np, _⟩ := R.zz D List.mem_cons_self
  refine ⟨fun b u q => ?_, R.len, R.nd, fun a ha => ?_, fun n a ob e1 e2 => (R.obj n a ob e1 e2).mono (same_upd gp) (Pre.refl _), fun z hzz => ?_⟩
  · by_cases hb : b = D
    · subst hb; rw [upd_same] at q; cases q; exact e
    · rw [upd_ne hb] at q; exact R.sub b u q
  · have : a ≠ D := fun e => np (e ▸ ha)
    rw [upd_ne this]; exact R.out a ha
  · have : z ≠ D := fun e => hz (e ▸ hzz)
    rw [upd_ne this]; exact R.zz z (List.mem_cons_of_mem _ hzz)
/-- it is made, it goes on changing -/
theorem HR.doneR {D : Addr} {m : MO} (R : HR K (D :: Z) G ι h H) (ro : RO K G (ι ++ [D]) m (H D)) (hz : D ∉ Z) : HR K Z G (ι ++ [D]) (h ++ [m]) H := by
  obtain ⟨gp, np, _⟩ := R.zz D List.mem_cons_self
  refine ⟨R.sub, by simp [R.len], ?_, fun a ha => ?_, fun n a ob e1 e2 => ?_, fun z hzz => ?_⟩
  · rw [List.nodup_append]
    refine ⟨R.nd, by simp, fun a ha b hb => ?_⟩
    have : b = D := by simpa using hb
    subst this
    exact fun e => np (e ▸ ha)
  · rcases List.mem_append.mp ha with ha | ha
    · exact R.out a ha
    · have : a = D := by simpa using ha
      subst this; exact gp
  · by_cases hn : n < ι.length
    · rw [List.getElem?_append_left hn] at e1
      rw [List.getElem?_append_left (by rw [← R.len]; exact hn)] at e2
      exact (R.obj n a ob e1 e2).mono (fun _ _ q => q) (Pre.append _ _)
    · have hn' : n = ι.length := by
        have := (List.getElem?_eq_some_iff.mp e1).1
        rw [List.length_append, List.length_singleton] at this
        omega
      subst hn'
      have e1' : D = a := by simpa using e1
      have e2' : m = ob := by
        rw [R.len] at e2
        simpa using e2
      subst e1' e2'
      exact ro
  · obtain ⟨z1, z2, u, z3⟩ := R.zz z (List.mem_cons_of_mem _ hzz)
    refine ⟨z1, fun q => ?_, u, z3⟩
    rcases List.mem_append.mp q with q | q
    · exact z2 q
    · have : z = D := by simpa using q
      exact hz (this ▸ hzz)
theorem Nx.zless {D : Addr} {G1 : Hp} {ι1 : List Addr} {h1 : MH} {H1 : Hp} (n : Nx K (D :: Z) G ι H G1 ι1 h1 H1) : Nx K Z G ι H G1 ι1 h1 H1 := ⟨n.same, n.pre, n.hr.zless, fun z hz => n.zz z (List.mem_cons_of_mem _ hz)⟩
end
section
variable {K : Wr} {Z : List Addr} {G G1 : Hp} {ι ι1 : List Addr} {h h1 : MH} {H H1 : Hp} {α β γ δ μ : Type} {exc : List Str}
variable {R : Hp → List Addr → α → β → Prop} {R' : Hp → List Addr → γ → δ → Prop} {E E' : XK}
/-- a step within what may raise nothing, while D is made -/
theorem RP.bindN {D : Addr} {A : Res α} {B : α → MH → Res μ} {f : μ → MH → Res γ} {Q : δ → Hp → Prop} {Q1 : β → Hp → Prop} (p : RP exc K R' Z G ι H ((Res.nox (A.bind B)).bind f) Q E)
    (k : ∀ a h1 G1 ι1 H1 b, Nx K (D :: Z) G ι H G1 ι1 h1 H1 → R G1 ι1 a b → RP exc K R' Z G1 ι1 H1 ((Res.nox (B a h1)).bind f) Q E → Q1 b H1) : RP exc K R (D :: Z) G ι H A Q1 E' := by
  cases A with
  | ok a h' => exact fun G' ι' H' b n q => k a h' G' ι' H' b n q (RP.later p n.zless)
  | exn c v h' => exact p.elim
  | stuck => exact p.elim
end
theorem compL_len {body : PV → MH → Res (Option PV)} {l : List (Nat × List PV)} : ∀ {xs acc : List PV} {h : MH} {ys : List PV} {h' : MH}, compL body l xs acc h = .ok ys h' → acc.length ≤ ys.length
  | [], acc, h, ys, h', e => by
    unfold compL at e
    split at e
    · cases e; exact Nat.le_refl _
    · cases e
  | x :: xs, acc, h, ys, h', e => by
    unfold compL at e
    split at e
    · cases q : body x h with
      | stuck => rw [q] at e; cases e
      | exn c v h => rw [q] at e; cases e
      | ok o h1 =>
        rw [q] at e
        have := compL_len (show compL body l xs _ h1 = _ from e)
        cases o with
        | none => exact this
        | some y => rw [List.length_append, List.length_singleton] at this; omega
    · cases e
theorem compL_nox {f : PV → MH → Res (Option PV)} {l : List (Nat × List PV)} : ∀ {xs acc : List PV} {h : MH} {c v h'}, compL (fun x h => (f x h).nox) l xs acc h ≠ .exn c v h'
  | [], acc, h, c, v, h', e => by
    unfold compL at e
    split at e <;> cases e
  | x :: xs, acc, h, c, v, h', e => by
    unfold compL at e
    split at e
    · cases q : f x h with
      | stuck => rw [q] at e; cases e
      | exn c v h => rw [q] at e; cases e
      | ok o h1 =>
        rw [q] at e
        exact compL_nox (show compL (fun x h => (f x h).nox) l xs _ h1 = _ from e)
    · cases e

section
variable {X : Cx} {exc : List Str} {W : WX}
abbrev W0 : WX := fun _ _ _ _ => False
/-- one comprehension's run -/
noncomputable def compR (r : Bool) (ri : Env' → MH → Res Src) (g : Ag) (vs : List Nat) (rt : Env' → MH → Res Bool) (re : Env' → MH → Res PV) : Env' → MH → Res PV := fun ρ h => (ri ρ h).bind fun s h => (compL (fun x h => Res.nox (match bindG g x (wipeP ρ vs) h with
      | some ρ' => (rt ρ' h).bind fun b h => if b = true then (re ρ' h).bind fun y h => .ok (some y) h else .ok none h
      | none => .stuck)) s.1 s.2 [] h).bind fun xs h => if xs.length ≤ sizeLine then mkLst r xs h else .stuck
theorem comp_fin {K : Wr} {Z : List Addr} {G : Hp} {ι : List Addr} {h : MH} {H : Hp} {D : Addr} {acc : List PV} {vacc : List V} {r : Bool} {Q : VK} {E : XK} (R : HR K (D :: Z) G ι h H) (hz : D ∉ Z) (e : H D = some (.lst vacc)) (ra : RVs K G ι acc vacc) (p : RP exc K (rV K) Z G ι H (mkLst r acc h) Q E) : Q (.ref D) H := by
  obtain ⟨gp, np, _⟩ := R.zz D List.mem_cons_self
  unfold mkLst at p
  split at p
  · have R2 := R.doneR (m := .lst acc) (by rw [e]; exact .lst (ra.mono (Same.refl _) (Pre.append _ _))) hz
    refine p G (ι ++ [D]) H (.ref D) ⟨Same.refl _, Pre.append _ _, R2, fun _ _ => rfl⟩ (.ref ?_)
    rw [← R.len]; simp
  · have R2 := R.doneF e hz
    refine p (upd G D (.lst vacc)) ι H (.ref D) ⟨same_upd gp, Pre.refl _, R2, fun _ _ => rfl⟩ (.lst (.inl upd_same) (ra.mono (same_upd gp) (Pre.refl _)))
theorem tLc_weak {K : Wr} {r : Bool} {ri : Env' → MH → Res Src} {g : Ag} {vs : List Nat} {rt : Env' → MH → Res Bool} {re : Env' → MH → Res PV} (hsl : ∀ i ∈ g.slots, i ∈ vs) {σ : L2.St} {H : Hp} {Q : VK}
    (q : tE exc K W (compR r ri g vs rt re) σ H Q) : tLc (tI exc K W ri) (tG K g) (tT exc K W0 rt) (tE exc K W0 re) vs σ H Q := by
  obtain ⟨Z, G, ι, h, ρ, R, S, p⟩ := q
  unfold compR at p
  refine ⟨Z, G, ι, h, ρ, R, S, p.bind fun s h1 G1 ι1 H1 J n1 hJ p1 => ?_⟩
  intro D hD
  have hzD : D ∉ Z := n1.hr.freshZ hD
  generalize hbody : (fun (x : PV) (h : MH) => Res.nox (match bindG g x (wipeP ρ vs) h with
      | some ρ' => (rt ρ' h).bind fun b h => if b = true then (re ρ' h).bind fun y h => Res.ok (some y) h else .ok none h
      | none => .stuck)) = body at p1
  refine ⟨fun i m H' => m = s.2.length - i ∧ i ≤ s.2.length ∧ ∃ G2 ι2 h2 acc vacc, Same G1 G2 ∧ Pre ι1 ι2 ∧ HR K (D :: Z) G2 ι2 h2 H' ∧ (∀ z ∈ Z, H' z = H1 z) ∧ H' D = some (.lst vacc) ∧ RVs K G2 ι2 acc vacc ∧
    RP exc K (rV K) Z G2 ι2 H' ((compL body s.1 (s.2.drop i) acc h2).bind fun xs h => if xs.length ≤ sizeLine then mkLst r xs h else .stuck) Q (fun cls d H' => W cls d σ H'), ⟨_, rfl, Nat.zero_le _, G1, ι1, h1, [], [], Same.refl _, Pre.refl _, n1.hr.make hD, fun z hz => upd_ne fun e => hzD (e ▸ hz), upd_same, .nil, ?_⟩, ?_⟩
  · refine RP.later p1 (h1 := h1) ⟨Same.refl _, Pre.refl _, (n1.hr.make hD).zless, fun z hz => upd_ne fun e => hzD (e ▸ hz)⟩
  · rintro i m H2 ⟨rfl, hi, G2, ι2, h2, acc, vacc, s2, pr2, R2, z2, eD, ra, p2⟩
    by_cases hlt : i < s.2.length
    · have ex : s.2[i]? = some s.2[i] := List.getElem?_eq_getElem hlt
      rw [List.drop_eq_getElem_cons hlt] at p2
      unfold compL at p2
      split at p2
      · rename_i hchk
        refine .inr ⟨hJ.go (D :: Z) G2 ι2 h2 H2 i s2 pr2 R2 hchk hlt, fun H' => ∃ m' < s.2.length - i, m' = s.2.length - (i + 1) ∧ ∃ G2 ι2 h2 acc vacc, Same G1 G2 ∧ Pre ι1 ι2 ∧ HR K (D :: Z) G2 ι2 h2 H' ∧ (∀ z ∈ Z, H' z = H1 z) ∧ H' D = some (.lst vacc) ∧ RVs K G2 ι2 acc vacc ∧
          RP exc K (rV K) Z G2 ι2 H' ((compL body s.1 (s.2.drop (i + 1)) acc h2).bind fun xs h => if xs.length ≤ sizeLine then mkLst r xs h else .stuck) Q (fun cls d H' => W cls d σ H'), ?_, ?_⟩
        · rintro H' ⟨m', hm, e, w⟩
          exact ⟨m', hm, e, hlt, w⟩
        · intro xv H3 hy
          obtain ⟨G3, ι3, n3, rx⟩ := hJ.yld (D :: Z) G2 ι2 h2 H2 i xv H3 _ s2 pr2 R2 hchk ex hy
          have p3 := RP.later p2 n3.zless
          rw [Res.assoc, ← hbody] at p3
          dsimp only at p3
          have S3 : SR K G3 ι3 (wipeP ρ vs) (L2.wipe σ vs) := (S.mono (n1.same.trans (s2.trans n3.same)) (n1.pre.trans (pr2.trans n3.pre))).wipe vs
          cases hb : bindG g s.2[i] (wipeP ρ vs) h2 with
          | none => rw [hb] at p3; exact p3.elim
          | some ρ' =>
            rw [hb] at p3
            dsimp only at p3
            refine ⟨D :: Z, G3, ι3, h2, wipeP ρ vs, s.2[i], ρ', n3.hr, S3, rx, hb, fun σ2 S2 l2 k2 => ⟨?_, ?_⟩⟩
            · have : L2.wipe σ2 vs = L2.wipe (L2.wipe σ vs) vs := wipe_same l2 fun j hj => k2 j fun q => hj (hsl j q)
              rw [this, wipe_wipe]
            · refine ⟨D :: Z, G3, ι3, h2, ρ', n3.hr, S2, p3.bindN fun b h4 G4 ι4 H4 b' n4 eb p4 => ?_⟩
              cases eb
              have e4 : H4 D = some (.lst vacc) := ((n4.zz D List.mem_cons_self).trans (n3.zz D List.mem_cons_self)).trans eD
              have z4 : ∀ z ∈ Z, H4 z = H1 z := fun z hz => ((n4.zz z (List.mem_cons_of_mem _ hz)).trans (n3.zz z (List.mem_cons_of_mem _ hz))).trans (z2 z hz)
              have s4 := s2.trans (n3.same.trans n4.same)
              have pr4 := pr2.trans (n3.pre.trans n4.pre)
              cases b with
              | false =>
                refine ⟨_, by omega, rfl, G4, ι4, h4, acc, vacc, s4, pr4, n4.hr, z4, e4, ra.mono (n3.same.trans n4.same) (n3.pre.trans n4.pre), ?_⟩
                rw [hbody] at p4
                exact p4
              | true =>
                refine ⟨D :: Z, G4, ι4, h4, ρ', n4.hr, S2.mono n4.same n4.pre, p4.bindN fun y h5 G5 ι5 H5 vy n5 ry p5 => ?_⟩
                have e5 : H5 D = some (.lst vacc) := (n5.zz D List.mem_cons_self).trans e4
                have ra5 := ra.mono (n3.same.trans (n4.same.trans n5.same)) (n3.pre.trans (n4.pre.trans n5.pre))
                rw [hbody] at p5
                have p5' : RP exc K (rV K) Z G5 ι5 H5 ((compL body s.1 (s.2.drop (i + 1)) (acc ++ [y]) h5).bind fun xs h => if xs.length ≤ sizeLine then mkLst r xs h else .stuck) Q (fun cls d H' => W cls d σ H') := p5
                refine ⟨vacc, e5, ?_, ?_⟩
                · rw [← ra5.length]
                  cases ec : compL body s.1 (s.2.drop (i + 1)) (acc ++ [y]) h5 with
                  | stuck => rw [ec] at p5'; exact p5'.elim
                  | exn c v h =>
                    rw [← hbody] at ec
                    exact absurd ec compL_nox
                  | ok ys h6 =>
                    rw [ec] at p5'
                    have l6 := compL_len ec
                    rw [List.length_append, List.length_singleton] at l6
                    have p6 : RP exc K (rV K) Z G5 ι5 H5 (if ys.length ≤ sizeLine then mkLst r ys h6 else .stuck) Q (fun cls d H' => W cls d σ H') := p5'
                    split at p6
                    · omega
                    · exact p6.elim
                · refine ⟨_, by omega, rfl, G5, ι5, h5, acc ++ [y], vacc ++ [vy], s4.trans n5.same, pr4.trans n5.pre, n5.hr.zput, fun z hz => ?_, upd_same, ra5.append (.cons ry .nil), ?_⟩
                  · have hne : z ≠ D := fun e => hzD (e ▸ hz)
                    rw [upd_ne hne]
                    exact (n5.zz z (List.mem_cons_of_mem _ hz)).trans (z4 z hz)
                  · exact RP.later p5' (h1 := h5) ⟨Same.refl _, Pre.refl _, n5.hr.zput.zless, fun z hz => upd_ne fun e => hzD (e ▸ hz)⟩
      · exact p2.elim
    · have e : s.2.drop i = [] := List.drop_eq_nil_of_le (by omega)
      rw [e] at p2
      unfold compL at p2
      split at p2
      · rename_i hchk
        have p3 : RP exc K (rV K) Z G2 ι2 H2 (if acc.length ≤ sizeLine then mkLst r acc h2 else .stuck) Q (fun cls d H' => W cls d σ H') := p2
        refine .inl ⟨hJ.stop (D :: Z) G2 ι2 h2 H2 i s2 pr2 R2 hchk (by omega), ?_⟩
        split at p3
        · exact comp_fin R2 hzD eD ra p3
        · exact p3.elim
      · exact p2.elim
theorem me_comp {elt tg iter : Expr} {ifs : List Expr} {scope : Scope} {own : List (Str × Nat)} {pos : Pos} {r : Bool} {ri : Env' → MH → Res Src} {g : Ag} {rt : Env' → MH → Res Bool} {re : Env' → MH → Res PV} (hc : X.calm = true) (hN : X.N.Nodup)
    (hi : PI X tg iter (tI exc (kx X) W ri)) (ok : BlkOk X.N X.env.scope scope own) (hsl : ∀ i ∈ g.slots, i ∈ own.map (·.2))
    (hg : ∀ (s : Shared) (H : Hp) (C : Addr) (cl : List (Str × Addr)) (fp : List Addr), PG (X.blk s H scope (compEnvC scope cl C X.env) fp) tg (tG (kx X) g))
    (ht : ∀ (s : Shared) (H : Hp) (C : Addr) (cl : List (Str × Addr)) (fp : List Addr), PTs (X.blk s H scope (compEnvC scope cl C X.env) fp) ifs (tT exc (kx X) W0 rt))
    (he : ∀ (s : Shared) (H : Hp) (C : Addr) (cl : List (Str × Addr)) (fp : List Addr), PE (X.blk s H scope (compEnvC scope cl C X.env) fp) elt (tE exc (kx X) W0 re)) (hs : ∀ x, foldedSetIterable iter X.env x = pure x) :
    PE X (.ListComp elt [⟨tg, iter, ifs, 0⟩] scope pos) (tE exc (kx X) W (compR r ri g (own.map (·.2)) rt re)) :=
  (pe_lc hc hN hi ok hg ht he hs).weak fun σ H Q q => tLc_weak hsl q
theorem mt_none : PTs X [] (tT exc (kx X) W fun _ h => .ok true h) := ⟨fun pins s σ H Q I q => by
  obtain ⟨Z, G, ι, h, ρ, R, S, p⟩ := q
  exact pts_nil.run pins s σ H Q I (RP.ok_here p R rfl)⟩
theorem mt_some {c : Expr} {r : Env' → MH → Res PV} (hp : PT X c (tT exc (kx X) W (truR r))) : PTs X [c] (tT exc (kx X) W (truR r)) := pts_one hp
end
end Mx


set_option Elab.async false
set_option linter.all false
set_option maxRecDepth 100000
set_option maxHeartbeats 4000000
/-! How a def's parameters are bound. -/
namespace Mx
open PySem PySem.Spec PyProof.Rows L2
theorem lookup_app {α : Type} {x : Str} : ∀ {l r : List (Str × α)}, l.lookup x = none → (l ++ r).lookup x = r.lookup x
  | [], r, _ => rfl
  | (k, v) :: l, r, h => by
    rw [List.lookup_cons] at h
    rw [List.cons_append, List.lookup_cons]
    cases hb : x == k with
    | true => rw [hb] at h; cases h
    | false => rw [hb] at h; exact lookup_app h
theorem lookup_none {α : Type} {x : Str} : ∀ {l : List (Str × α)}, x ∉ l.map (·.1) → l.lookup x = none
  | [], _ => rfl
  | (k, v) :: l, h => by
    rw [List.lookup_cons]
    rw [List.map_cons, List.mem_cons, not_or] at h
    have : (x == k) = false := beq_eq_false_iff_ne.mpr h.1
    rw [this]
    exact lookup_none h.2
theorem zip_fst {α : Type} {ps : List Str} {us : List α} {x : Str} (h : x ∈ (ps.zip us).map (·.1)) : x ∈ ps.take us.length := by
  obtain ⟨⟨a, b⟩, h1, rfl⟩ := List.mem_map.mp h
  induction ps generalizing us with
  | nil => simp at h1
  | cons p ps ih =>
    cases us with
    | nil => simp at h1
    | cons u us =>
      rw [List.zip_cons_cons] at h1
      rw [List.length_cons, List.take_succ_cons]
      rcases List.mem_cons.mp h1 with e | h1
      · cases e; exact List.mem_cons_self
      · exact List.mem_cons_of_mem _ (ih h1 (List.mem_map.mpr ⟨_, h1, rfl⟩))
section
variable {α : Type}
theorem looks_congr {kv kv' : List (Str × α)} : ∀ {qs : List Str}, (∀ n ∈ qs, kv.lookup n = kv'.lookup n) → looks kv qs = looks kv' qs
  | [], _ => rfl
  | q :: qs, h => by
    unfold looks
    rw [h q List.mem_cons_self, looks_congr fun n hn => h n (List.mem_cons_of_mem _ hn)]
theorem looks_all {kv : List (Str × α)} : ∀ {qs : List Str} {zs : List α}, looks kv qs = some zs → ∀ n ∈ qs, ∃ v, kv.lookup n = some v
  | q :: qs, zs, h, n, hn => by
    unfold looks at h
    cases e : kv.lookup q with
    | none => rw [e] at h; cases h
    | some a =>
      cases e2 : looks kv qs with
      | none => rw [e, e2] at h; cases h
      | some b =>
        rcases List.mem_cons.mp hn with rfl | hn
        · exact ⟨a, e⟩
        · exact looks_all e2 n hn
theorem looks_map {kv : List (Str × α)} : ∀ {qs : List Str} {zs : List α}, looks kv qs = some zs → (qs.filterMap fun n => (kv.lookup n).map (n, ·)) = qs.zip zs
  | [], zs, h => by simp [looks] at h; subst h; rfl
  | q :: qs, zs, h => by
    unfold looks at h
    cases e : kv.lookup q with
    | none => rw [e] at h; cases h
    | some a =>
      cases e2 : looks kv qs with
      | none => rw [e, e2] at h; cases h
      | some b =>
        rw [e, e2] at h
        cases h
        rw [List.filterMap_cons]
        simp only [e, Option.map_some, List.zip_cons_cons, looks_map e2]
theorem looks_app {kv : List (Str × α)} : ∀ {ps qs : List Str} {ys zs : List α}, looks kv ps = some ys → looks kv qs = some zs → looks kv (ps ++ qs) = some (ys ++ zs)
  | [], qs, ys, zs, h, h' => by simp [looks] at h; subst h; exact h'
  | p :: ps, qs, ys, zs, h, h' => by
    unfold looks at h
    cases e : kv.lookup p with
    | none => rw [e] at h; cases h
    | some a =>
      cases e2 : looks kv ps with
      | none => rw [e, e2] at h; cases h
      | some b =>
        rw [e, e2] at h
        cases h
        rw [List.cons_append]
        unfold looks
        rw [e, looks_app e2 h']
        rfl
theorem looks_zip : ∀ {qs : List Str} {us : List α} {r : List (Str × α)}, qs.Nodup → qs.length = us.length → looks (qs.zip us ++ r) qs = some us
  | [], [], _, _, _ => rfl
  | [], _ :: _, _, _, h => by cases h
  | _ :: _, [], _, _, h => by cases h
  | q :: qs, u :: us, r, nd, hl => by
    rw [List.nodup_cons] at nd
    unfold looks
    rw [List.zip_cons_cons, List.cons_append, List.lookup_cons_self]
    have : looks ((q, u) :: (qs.zip us ++ r)) qs = some us := by
      rw [looks_congr (kv' := qs.zip us ++ r) fun n hn => ?_]
      · exact looks_zip nd.2 (by simpa using hl)
      · rw [List.lookup_cons]
        have : (n == q) = false := beq_eq_false_iff_ne.mpr fun e => nd.1 (e ▸ hn)
        rw [this]
    rw [this]
theorem args_looks {ps ks : List Str} {us ws as : List α} (nd : ps.Nodup) (h : argsOf ps us ks ws = some as) : looks (ps.zip us ++ ks.zip ws) ps = some as ∧ us.length ≤ ps.length ∧ ks.Nodup ∧ ∀ k ∈ ks, k ∈ ps ∧ k ∉ (ps.zip us).map (·.1) := by
  unfold argsOf at h
  split at h
  · rename_i hc
    obtain ⟨h1, h2, h3, h4⟩ := hc
    cases e : looks (ks.zip ws) (ps.drop us.length) with
    | none => rw [e] at h; cases h
    | some zs =>
      rw [e] at h
      cases h
      have nd' := nd
      rw [← List.take_append_drop us.length ps] at nd'
      have apart : ∀ n ∈ ps.drop us.length, n ∉ (ps.zip us).map (·.1) := fun n hn q => (List.nodup_append.mp nd').2.2 n (zip_fst q) n hn rfl
      refine ⟨?_, by omega, h3, fun k hk => ⟨List.mem_of_mem_drop (h4 k hk), apart k (h4 k hk)⟩⟩
      have e1 : looks (ps.zip us ++ ks.zip ws) (ps.take us.length) = some us := by
        have ez : ps.zip us = (ps.take us.length).zip us := by
          conv => lhs; rw [← List.take_append_drop us.length ps]
          have hl : (ps.take us.length).length = us.length := by rw [List.length_take]; omega
          have := List.zip_append (l₁ := ps.take us.length) (l₂ := us) (r₁ := ps.drop us.length) (r₂ := ([] : List α)) hl
          simpa using this
        rw [ez]
        exact looks_zip ((List.take_sublist _ _).nodup nd) (by rw [List.length_take]; omega)
      have e2 : looks (ps.zip us ++ ks.zip ws) (ps.drop us.length) = some zs := by
        rw [looks_congr (kv' := ks.zip ws) fun n hn => lookup_app (lookup_none (apart n hn))]
        exact e
      have := looks_app e1 e2
      rwa [List.take_append_drop] at this
  · cases h
end
theorem kw_loop {ps : List Str} (f : Str × Value → List (Str × Value) × List (Str × Value) → Sem (ForInStep (List (Str × Value) × List (Str × Value))))
    (hf : ∀ k v s e, k ∈ ps → s.lookup k = none → f (k, v) (s, e) = pure (.yield (s ++ [(k, v)], e))) :
    ∀ (l s e : List (Str × Value)), (∀ p ∈ l, p.1 ∈ ps ∧ p.1 ∉ s.map (·.1)) → (l.map (·.1)).Nodup → forIn l (s, e) f = pure (s ++ l, e)
  | [], s, e, _, _ => by rw [List.forIn_nil, List.append_nil]
  | (k, v) :: l, s, e, h, nd => by
    rw [List.map_cons, List.nodup_cons] at nd
    rw [List.forIn_cons, hf k v s e (h _ List.mem_cons_self).1 (lookup_none (h _ List.mem_cons_self).2)]
    have ih := kw_loop f hf l (s ++ [(k, v)]) e (fun p hp => ⟨(h p (List.mem_cons_of_mem _ hp)).1, fun q => ?_⟩) nd.2
    · rw [List.append_assoc] at ih
      exact ih
    · rw [List.map_append, List.mem_append] at q
      rcases q with q | q
      · exact (h p (List.mem_cons_of_mem _ hp)).2 q
      · have : p.1 = k := by simpa using q
        exact nd.1 (List.mem_map.mpr ⟨p, hp, this⟩)
theorem zip_keys {ks : List Str} {ws : List Value} (nd : ks.Nodup) : ((ks.zip ws).map (·.1)).Nodup := by
  induction ks generalizing ws with
  | nil => simp
  | cons k ks ih =>
    cases ws with
    | nil => simp
    | cons w ws =>
      rw [List.nodup_cons] at nd
      rw [List.zip_cons_cons, List.map_cons, List.nodup_cons]
      exact ⟨fun q => nd.1 (List.mem_of_mem_take (zip_fst q)), ih nd.2⟩
theorem binds_all {fd : FuncData} {ps : List Str} (h1 : fd.params.posonlyargs = []) (h2 : fd.params.kwonlyargs = []) (h3 : fd.params.vararg = none) (h4 : fd.params.kwarg = none) (hd : fd.defaults = .none) (hn : fd.params.args.map (·.arg) = ps) (nd : ps.Nodup)
    {us ws as : List Value} {ks : List Str} (h : argsOf ps us ks ws = some as) : bindArgs fd ⟨us, ks.zip ws⟩ = pure (ps.zip as) := by
  obtain ⟨hl, hle, kn, kin⟩ := args_looks nd h
  unfold bindArgs
  simp only [h1, h2, h3, h4, hd, hn, List.map_nil, List.nil_append]
  rw [kw_loop (ps := ps)]
  · simp only [pure_bind]
    have e0 : (seqItems? Value.none : Sem (Option (Array Value))) = pure none := rfl
    have e1 : decide (us.length > ps.length) = false := decide_eq_false (by omega)
    have e2 : (List.filter (fun n => (List.lookup n (ps.zip us ++ ks.zip ws)).isNone) ps) = [] := by
      rw [List.filter_eq_nil_iff]
      intro n hn
      obtain ⟨v, e⟩ := looks_all hl n hn
      rw [e]; simp
    simp only [e0, pure_bind, e1, Bool.false_and, Bool.false_eq_true, if_false, Option.getD_none, List.length_nil, Nat.sub_zero, List.take_length, e2, List.isEmpty_nil, Bool.not_true, List.drop_length, List.drop_nil, List.zip_nil_right, List.zip_nil_left, List.forIn_nil, List.append_nil, List.take_nil, List.drop_zero]
    rw [looks_map hl]
  · intro k v s e hk hs
    have hk' : ps.contains k = true := List.contains_iff_mem.mpr hk
    simp only [hk', hs, Bool.true_or, if_true, Option.isSome_none, Bool.false_eq_true, if_false]
  · intro p hp
    exact kin p.1 (List.of_mem_zip hp).1
  · exact zip_keys kn
end Mx


set_option Elab.async false
set_option linter.all false
set_option maxRecDepth 100000
set_option maxHeartbeats 4000000
/-! Calls of the program's own defs. -/
namespace Mx
open PySem PySem.Spec PyProof.Rows L2
theorem takesN {X : Cx} : Takes X W0 := fun _ _ x => by
  obtain ⟨a, B, sI, pins, σ, H, cls, d, e, I, nb, up, sky, na, os, ag, w⟩ := x
  exact w.elim
section
variable {α β : Type} {R : α → β → Prop}
theorem lookup_rel : ∀ {ks : List Str} {xs : List α} {us : List β}, Paired R xs us → ∀ {k : Str} {a : α}, (ks.zip xs).lookup k = some a → ∃ b, (ks.zip us).lookup k = some b ∧ R a b
  | [], _, _, _, k, a, e => by simp at e
  | q :: ks, _, _, .nil, k, a, e => by simp at e
  | q :: ks, _, _, .cons (a := x) (b := u) r t, k, a, e => by
    rw [List.zip_cons_cons, List.lookup_cons] at e
    rw [List.zip_cons_cons, List.lookup_cons]
    cases hb : k == q with
    | true => rw [hb] at e; cases e; exact ⟨u, rfl, r⟩
    | false => rw [hb] at e; exact lookup_rel t e
theorem looks_rel {kv : List (Str × α)} {kw : List (Str × β)} (h : ∀ k a, kv.lookup k = some a → ∃ b, kw.lookup k = some b ∧ R a b) : ∀ {ps : List Str} {as : List α}, looks kv ps = some as → ∃ bs, looks kw ps = some bs ∧ Paired R as bs
  | [], as, e => by simp [looks] at e; subst e; exact ⟨[], rfl, .nil⟩
  | p :: ps, as, e => by
    unfold looks at e
    cases e1 : kv.lookup p with
    | none => rw [e1] at e; cases e
    | some a =>
      cases e2 : looks kv ps with
      | none => rw [e1, e2] at e; cases e
      | some bs =>
        rw [e1, e2] at e
        cases e
        obtain ⟨b, q1, q2⟩ := h p a e1
        obtain ⟨cs, q3, q4⟩ := looks_rel h e2
        refine ⟨b :: cs, ?_, .cons q2 q4⟩
        unfold looks
        rw [q1, q3]
theorem Paired.app {as cs : List α} {bs ds : List β} (h : Paired R as bs) (h' : Paired R cs ds) : Paired R (as ++ cs) (bs ++ ds) := by
  induction h with
  | nil => exact h'
  | cons r _ ih => exact .cons r ih
theorem args_rel {ps ks : List Str} {xs ys as : List α} {us ws : List β} (h1 : Paired R xs us) (h2 : Paired R ys ws) (e : argsOf ps xs ks ys = some as) : ∃ bs, argsOf ps us ks ws = some bs ∧ Paired R as bs := by
  unfold argsOf at e
  split at e
  · rename_i hc
    cases e1 : looks (ks.zip ys) (ps.drop xs.length) with
    | none => rw [e1] at e; cases e
    | some zs =>
      rw [e1] at e
      cases e
      rw [h1.length] at e1
      obtain ⟨bs, q1, q2⟩ := looks_rel (fun k a => lookup_rel h2) e1
      refine ⟨us ++ bs, ?_, Paired.app h1 q2⟩
      unfold argsOf
      rw [if_pos (by rw [← h1.length, ← h2.length]; exact hc), q1]
      rfl
  · cases e
end
theorem rvs_paired {K : Wr} {G : Hp} {ι : List Addr} : ∀ {xs : List PV} {vs : List V}, RVs K G ι xs vs → ∀ {us : List Value}, Vals vs us → Paired (fun x u => ∃ v, RV K G ι x v ∧ RelV v u) xs us
  | _, _, .nil, _, .nil => .nil
  | _, _, .cons r t, _, .cons r' t' => .cons ⟨_, r, r'⟩ (rvs_paired t t')
theorem paired_rvs {K : Wr} {G : Hp} {ι : List Addr} : ∀ {xs : List PV} {us : List Value}, Paired (fun x u => ∃ v, RV K G ι x v ∧ RelV v u) xs us → ∃ vs, RVs K G ι xs vs ∧ Vals vs us
  | _, _, .nil => ⟨[], .nil, .nil⟩
  | _, _, .cons ⟨v, r, r'⟩ t => by
    obtain ⟨vs, q1, q2⟩ := paired_rvs t
    exact ⟨v :: vs, .cons r q1, .cons r' q2⟩

/-! ### no star -/
def nostar : List Expr → Bool
  | [] => true
  | .Starred _ _ :: _ => false
  | _ :: es => nostar es
theorem nostar_at {e : Expr} {es : List Expr} (h : nostar (e :: es) = true) (env : Env) : starEach (e :: es) env = (false, eval e env) :: starEach es env ∧ nostar es = true := by
  cases e <;> first | exact ⟨rfl, h⟩ | cases h
theorem nostar_any {pos : Pos} {env : Env} : ∀ {es : List Expr}, nostar es = true → (backTo pos (starEach es env)).any (·.1) = false
  | [], _ => rfl
  | e :: es, h => by
    obtain ⟨h1, h2⟩ := nostar_at h env
    rw [h1]
    show (false || (backTo pos (starEach es env)).any (·.1)) = false
    rw [nostar_any h2]; rfl
theorem kw_names {pos : Pos} {env : Env} : ∀ {ks : List Str} {kws : List Keyword}, kws.map (·.arg) = ks.map some → (backToKw pos (keywordEach kws env)).all (·.1.isSome) = true ∧ (backToKw pos (keywordEach kws env)).any (·.1.isNone) = false ∧ (backToKw pos (keywordEach kws env)).filterMap (·.1) = ks
  | [], [], _ => ⟨rfl, rfl, rfl⟩
  | [], _ :: _, h => by cases h
  | _ :: _, [], h => by cases h
  | k :: ks, ⟨n, e, kp⟩ :: kws, h => by
    rw [List.map_cons, List.map_cons, List.cons.injEq] at h
    obtain ⟨h1, h2⟩ := h
    have h1 : n = some k := h1
    subst h1
    obtain ⟨q1, q2, q3⟩ := kw_names (pos := pos) (env := env) h2
    refine ⟨?_, ?_, ?_⟩
    · show (true && (backToKw pos (keywordEach kws env)).all (·.1.isSome)) = true
      rw [q1]; rfl
    · show (false || (backToKw pos (keywordEach kws env)).any (·.1.isNone)) = false
      rw [q2]; rfl
    · show k :: (backToKw pos (keywordEach kws env)).filterMap (·.1) = k :: ks
      rw [q3]

/-- what is written of a def -/
structure DefK (K : Wr) (f : Str) (a : Addr) (fd : FuncData) (ps : List Str) : Prop where
  mg : K.mg f = some (.ref a)
  keep : PySem.W.keepIn K.K (.ref a) = true
  po : fd.params.posonlyargs = []
  ko : fd.params.kwonlyargs = []
  va : fd.params.vararg = none
  ka : fd.params.kwarg = none
  df : fd.defaults = .none
  nm : fd.params.args.map (·.arg) = ps
  nd : ps.Nodup
theorem _root_.L2.PK.weak {X : Cx} {es : List Keyword} {t t' : TA} (h : PK X es t) (k : ∀ σ H Q, t' σ H Q → t σ H Q) : PK X es t' := ⟨fun pos pins s σ H Q I q => h.run pos pins s σ H Q I (k σ H Q q)⟩
section
variable {X : Cx} {exc : List Str} {W : WX}
theorem run_fnM {k : Nat} {a : Addr} {fd : FuncData} {ps ks : List Str} {sp : Sp} {E : XK} {pins : List (Addr × Obj)} {σ : L2.St} {H : Hp} {s : Shared} {Q : VK} {us ws as : List Value} {vs : List V} (F : FnOk X.prog X.w X.K X.mg X.base (L2.CX X.prog X.w) k a fd ps sp) (hr : Room k X.A)
    (hb : BindsTo s fd ⟨us, ks.zip ws⟩ (ps.zip as)) (hx : PassesAt (L2.CX X.prog X.w) X σ E) (I : Inv X pins σ H s) (r : Vals vs as) (h : sp vs H Q E) :
    wpAny (model X.prog X.w) X.A (PySem.call (.ref a) us (ks.zip ws)) (EP X pins σ Q) X.xe s := by
  refine wpAny_call (codeAny_mono (F.run X.A X.stack s H ⟨us, ks.zip ws⟩ as vs Q E hr I.env0 hb r h) fun r s' hq => ?_)
  cases r with
  | error e => exact hx pins H s e s' I hq
  | ok fl =>
    cases fl with
    | ret u => exact I.after hq
    | next => exact False.elim hq
    | brk => exact False.elim hq
    | cont => exact False.elim hq
theorem me_call {f : Str} {a : Addr} {fd : FuncData} {ps ks : List Str} {k : Nat} {es : List Expr} {kws : List Keyword} {p pos : Pos} {rs rk : Env' → MH → Res (List PV)} {b : List PV → MH → Res PV} {cl : List PV → List PV → MH → Res PV}
    (D : DefK (kx X) f a fd ps) (F : FnOk X.prog X.w X.K X.mg X.base (L2.CX X.prog X.w) k a fd ps (spF exc (kx X) ps.length b)) (hr : Room k X.A) (tk : Takes X W) (hg : Gl X f) (hdb : (f == ("__debug__" : Str)) = false)
    (hns : nostar es = true) (hkw : kws.map (·.arg) = ks.map some) (ha : PA X es (tA exc (kx X) W rs)) (hk : PK X kws (tA exc (kx X) W rk))
    (h0 : es = [] → ∀ ρ h, rs ρ h = .ok [] h) (hcl : ∀ xs ys h, cl xs ys h = match argsOf ps xs ks ys with | none => .stuck | some as => b as h) :
    PE X (.Call (.Name f p) es kws pos) (tE exc (kx X) W fun ρ h => (rs ρ h).bind fun xs h => (rk ρ h).bind fun ys h => cl xs ys h) := by
  refine ⟨fun pins s σ H Q I q => ?_⟩
  obtain ⟨Z, G, ι, h, ρ, R, S, p0⟩ := q
  obtain ⟨hall, hno, hks⟩ := kw_names (pos := pos) (env := X.env) hkw
  refine wpAny_Call_Name_kw (ld_glob I hg D.mg ?_ hdb)
  -- what stands behind the arguments
  have fin : ∀ {s2 : Shared} {H2 : Hp} {Z : List Addr} {G2 : Hp} {ι2 : List Addr} {h2 : MH} {xs ys : List PV} {vs zs : List V} {us ws : List Value}, Inv X pins σ H2 s2 → HR (kx X) Z G2 ι2 h2 H2 → RVs (kx X) G2 ι2 xs vs → RVs (kx X) G2 ι2 ys zs → Vals vs us → Vals zs ws →
      RP exc (kx X) (rV (kx X)) Z G2 ι2 H2 (cl xs ys h2) Q (fun cls d H' => W cls d σ H') → PySem.W.Frag.In X.K s2.heap ∧ wpAny (model X.prog X.w) X.A (PySem.call (.ref a) us (ks.zip ws)) (EP X pins σ Q) X.xe s2 := by
    intro s2 H2 Z G2 ι2 h2 xs ys vs zs us ws I2 R2 rx ry vx vy p2
    refine ⟨I2.kIn, ?_⟩
    rw [hcl] at p2
    cases e : argsOf ps xs ks ys with
    | none => rw [e] at p2; exact p2.elim
    | some as =>
      rw [e] at p2
      obtain ⟨bs, e2, pr⟩ := args_rel (rvs_paired rx vx) (rvs_paired ry vy) e
      obtain ⟨va, q1, q2⟩ := paired_rvs pr
      have hlen : as.length = ps.length := by
        obtain ⟨q, _⟩ := args_looks D.nd e
        have : ∀ {kv : List (Str × PV)} {ps : List Str} {as : List PV}, looks kv ps = some as → as.length = ps.length := by
          intro kv ps
          induction ps with
          | nil => intro as h; simp [looks] at h; subst h; rfl
          | cons p ps ih =>
            intro as h
            unfold looks at h
            split at h
            · rename_i z _ _ e2
              cases h
              rw [List.length_cons, List.length_cons, ih e2]
            · cases h
        exact this q
      exact run_fnM F hr (.of_eq (binds_all D.po D.ko D.va D.ka D.df D.nm D.nd e2)) (passAt tk σ) I2 q2 ⟨Z, G2, ι2, h2, as, hlen, R2, q1, p2⟩
  -- the keywords
  have kws_run : ∀ {s1 : Shared} {H1 : Hp} {G1 : Hp} {ι1 : List Addr} {h1 : MH} {xs : List PV} {vs : List V} {us : List Value}, Inv X pins σ H1 s1 → Nx (kx X) Z G ι H G1 ι1 h1 H1 → RVs (kx X) G1 ι1 xs vs → Vals vs us →
      RP exc (kx X) (rV (kx X)) Z G1 ι1 H1 ((rk ρ h1).bind fun ys h => cl xs ys h) Q (fun cls d H' => W cls d σ H') →
      wpAny (model X.prog X.w) X.A (evalAll ((backToKw pos (keywordEach kws X.env)).map (·.2))) (fun ws s2 => PySem.W.Frag.In X.K s2.heap ∧ wpAny (model X.prog X.w) X.A (PySem.call (.ref a) us (((backToKw pos (keywordEach kws X.env)).filterMap (·.1)).zip ws)) (EP X pins σ Q) X.xe s2) X.xe s1 := by
    intro s1 H1 G1 ι1 h1 xs vs us I1 n1 rx vx p1
    have hrun := hk.run pos pins s1 σ H1 (fun zs H2 => ∃ G2 ι2 h2 ys, Nx (kx X) Z G1 ι1 H1 G2 ι2 h2 H2 ∧ RVs (kx X) G2 ι2 ys zs ∧ RP exc (kx X) (rV (kx X)) Z G2 ι2 H2 (cl xs ys h2) Q (fun cls d H' => W cls d σ H')) I1
      ⟨Z, G1, ι1, h1, ρ, n1.hr, S.mono n1.same n1.pre, p1.bind fun ys h2 G2 ι2 H2 zs n2 ry p2 => ⟨G2, ι2, h2, ys, n2, ry, p2⟩⟩
    refine thn hrun fun ws s2 ⟨zs, H2, I2, rz, G2, ι2, h2, ys, n2, ry, p2⟩ => ?_
    rw [hks]
    exact fin I2 n2.hr (rx.mono n2.same n2.pre) ry vx rz p2
  have args_run := fun (pos : Pos) => ha.run pos pins s σ H (fun vs H1 => ∃ G1 ι1 h1 xs, Nx (kx X) Z G ι H G1 ι1 h1 H1 ∧ RVs (kx X) G1 ι1 xs vs ∧ RP exc (kx X) (rV (kx X)) Z G1 ι1 H1 ((rk ρ h1).bind fun ys h => cl xs ys h) Q (fun cls d H' => W cls d σ H')) I
    ⟨Z, G, ι, h, ρ, R, S, p0.bind fun xs h1 G1 ι1 H1 vs n1 rx p1 => ⟨G1, ι1, h1, xs, n1, rx, p1⟩⟩
  have hplain : ((backTo pos (starEach es X.env)).any (·.1) || (backToKw pos (keywordEach kws X.env)).any (·.1.isNone)) = false := by rw [nostar_any hns, hno]; rfl
  refine PySem.W.callWith_of hplain (PySem.W.keeps_K D.keep) ?_
  cases es with
  | nil =>
    refine evalArgs_kw2_nil hall ?_
    dsimp only at p0
    rw [h0 rfl] at p0
    exact kws_run (us := []) I (Nx.refl R) .nil .nil p0
  | cons e es =>
    obtain ⟨he, _⟩ := nostar_at hns X.env
    refine evalArgs_kw2 hall ?_ he
    exact thn (args_run pos) fun us s1 ⟨vs, H1, I1, r1, G1, ι1, h1, xs, n1, rx, p1⟩ => kws_run I1 n1 rx r1 p1
end
end Mx


set_option Elab.async false
set_option linter.all false
set_option maxRecDepth 100000
set_option maxHeartbeats 4000000
/-! What the checker takes runs as the small language says: expressions. -/
namespace Mx
open PySem PySem.Spec PyProof.Rows L2

/-- what holds of a context -/
structure Cg (L : Lk) (P : Pg) (cl : Calls) (W : WX) (X : Cx) : Prop where
  nd : X.N.Nodup
  calm : L.hot = false → X.calm = true
  un : X.A.units + 64 < cLine
  free : ∀ x ∈ L.fr, X.mg x = none
  gcd : L.gcd = true → X.mg "gcd" = some (.builtin "math.gcd")
  con : ∀ x ∈ L.cons, ∃ v u y, P.con x = some v ∧ X.mg x = some u ∧ RelV y u ∧ ∀ G ι, RV (kx X) G ι v y
  tk : Takes X W
  fns : L.hot = false → ∀ f ∈ L.fns, ∃ a fd ps k b, DefK (kx X) f a fd ps ∧ FnOk X.prog X.w X.K X.mg X.base (L2.CX X.prog X.w) k a fd ps (spF P.exc (kx X) ps.length b) ∧ Room k X.A ∧
    ∀ xs ks ys h, cl f xs ks ys h = match argsOf ps xs ks ys with | none => .stuck | some as => b as h
  xf : ∀ c ∈ P.exc, ∀ C, X.mg c = some (.ref C) → XfC X.K C ∧ PySem.W.findIn X.K (.ref C) "value" = some none
section
variable {L : Lk} {P : Pg} {cl : Calls} {W : WX} {X : Cx}
theorem Cg.blk (C : Cg L P cl W X) (s : Shared) (H : Hp) (scope : Scope) (cenv : Env) (fp : List Addr) : Cg L P cl W0 (X.blk s H scope cenv fp) :=
  ⟨C.nd, C.calm, C.un, C.free, C.gcd, C.con, takesN, C.fns, C.xf⟩
/-- the forms that are taken -/
def okE : Expr → Bool
  | .Name _ _ | .Constant _ _ _ | .Tuple _ _ _ | .List _ _ | .BinOp _ _ _ _ | .UnaryOp _ _ _ | .Compare _ _ _ _ | .BoolOp _ _ _ | .IfExp _ _ _ _ | .Subscript _ _ _ | .Call _ _ _ _ | .ListComp _ _ _ _ | .Attribute _ _ _ => true
  | _ => false
theorem mE_ok {N : List Str} {sc : Scope} {a : Ae} {e : Expr} (h : mE L N sc a e = true) : okE e = true := by
  cases e <;> first | rfl | (cases a <;> cases h)
theorem ok_star {e : Expr} (h : okE e = true) (es : List Expr) (env : Env) : starEach (e :: es) env = (false, eval e env) :: starEach es env := by
  cases e <;> first | rfl | cases h
theorem ok_nostar {e : Expr} {es : List Expr} (h : okE e = true) (h' : nostar es = true) : nostar (e :: es) = true := by
  cases e <;> first | exact h' | cases h
theorem ok_set {e : Expr} (h : okE e = true) : isSet e = false := by cases e <;> first | rfl | cases h
theorem ok_slice {e : Expr} (h : okE e = true) : isSlice e = false := by cases e <;> first | rfl | cases h
theorem ok_fold {e : Expr} (h : okE e = true) (env : Env) : ∀ x, foldedSetIterable e env x = pure x := by
  intro x
  cases e <;> first | rfl | cases h
theorem mEs_nostar {N : List Str} {sc : Scope} : ∀ {as : Aes} {es : List Expr}, mEs L N sc as es = true → nostar es = true
  | .nil, [], _ => rfl
  | .nil, _ :: _, h => by cases h
  | .cons _ _, [], h => by cases h
  | .cons a as, e :: es, h => by
    unfold mEs at h
    rw [Bool.and_eq_true] at h
    exact ok_nostar (mE_ok h.1) (mEs_nostar h.2)
theorem mEs_len {N : List Str} {sc : Scope} : ∀ {as : Aes} {es : List Expr}, mEs L N sc as es = true → as.len = es.length
  | .nil, [], _ => rfl
  | .nil, _ :: _, h => by cases h
  | .cons _ _, [], h => by cases h
  | .cons a as, e :: es, h => by
    unfold mEs at h
    rw [Bool.and_eq_true] at h
    unfold Aes.len
    rw [mEs_len h.2, List.length_cons]
theorem bind_ok {α β : Type} {r : Res α} {f : α → MH → Res β} {b : β} {h : MH} (e : r.bind f = .ok b h) : ∃ a h1, r = .ok a h1 ∧ f a h1 = .ok b h := by
  cases r with
  | ok a h1 => exact ⟨a, h1, rfl, e⟩
  | exn _ _ _ => cases e
  | stuck => cases e
theorem evs_len : ∀ {as : Aes} {ρ : Env'} {h : MH} {xs : List PV} {h' : MH}, evs P cl as ρ h = .ok xs h' → xs.length = as.len
  | .nil, ρ, h, xs, h', e => by
    unfold evs at e
    cases e; rfl
  | .cons a as, ρ, h, xs, h', e => by
    unfold evs at e
    obtain ⟨x, h1, e1, e2⟩ := bind_ok e
    obtain ⟨ys, h2, e3, e4⟩ := bind_ok e2
    cases e4
    rw [List.length_cons, evs_len e3]
    rfl
theorem kw_of {N : List Str} {sc : Scope} : ∀ {ks : List Str} {as : Aes} {kws : List Keyword}, mKs L N sc ks as kws = true → kws.map (·.arg) = ks.map some
  | [], .nil, [], _ => rfl
  | [], .nil, _ :: _, h => by cases h
  | [], .cons _ _, _, h => by cases h
  | _ :: _, .nil, _, h => by cases h
  | _ :: _, .cons _ _, [], h => by cases h
  | k :: ks, .cons a as, ⟨n, e, p⟩ :: kws, h => by
    cases n with
    | none => cases h
    | some n =>
      unfold mKs at h
      simp only [Bool.and_eq_true, decide_eq_true_eq] at h
      obtain ⟨⟨rfl, _⟩, h2⟩ := h
      rw [List.map_cons, List.map_cons, kw_of h2]
theorem fr_of {x : Str} (C : Cg L P cl W X) (h : L.fr.contains x = true) : X.mg x = none := C.free x (List.contains_iff_mem.mp h)
theorem free_of {x : Str} (C : Cg L P cl W X) (h : freeB L X.env.scope x = true) : Gl X x ∧ (x == ("__debug__" : Str)) = false ∧ X.mg x = none := by
  unfold freeB at h
  rw [Bool.and_eq_true] at h
  exact ⟨(gl_of h.1).1, (gl_of h.1).2, fr_of C h.2⟩
theorem mk_nil : PK X [] (tA exc (kx X) W fun _ h => .ok [] h) := pk_nil.weak fun σ H Q q => by
  obtain ⟨Z, G, ι, h, ρ, R, S, p⟩ := q
  exact RP.ok_here p R .nil
theorem mk_cons {exc : List Str} {e : Expr} {nm : Option Str} {kp : Pos} {kws : List Keyword} {r : Env' → MH → Res PV} {rs : Env' → MH → Res (List PV)} (ha : PE X e (tE exc (kx X) W r)) (hr : PK X kws (tA exc (kx X) W rs)) :
    PK X (⟨nm, e, kp⟩ :: kws) (tA exc (kx X) W fun ρ h => (r ρ h).bind fun x h => (rs ρ h).bind fun xs h => .ok (x :: xs) h) := by
  refine (pk_cons ha hr).weak fun σ H Q q => ?_
  obtain ⟨Z, G, ι, h, ρ, R, S, p⟩ := q
  refine ⟨Z, G, ι, h, ρ, R, S, p.bind fun x h1 G1 ι1 H1 vx n1 rx p1 => ?_⟩
  refine ⟨Z, G1, ι1, h1, ρ, n1.hr, S.mono n1.same n1.pre, p1.bind fun y h2 G2 ι2 H2 vy n2 ry p2 => ?_⟩
  exact RP.ok_here p2 n2.hr (.cons (rx.mono n2.same n2.pre) ry)
/-- the value of a caught exception -/
theorem me_val {i : Nat} {x : Str} {p pos : Pos} (C : Cg L P cl W X) (hN : X.N[i]? = some x) (hv : Vis X.env.scope x) (hd : (x == ("__debug__" : Str)) = false) (hcd : (x == ("__classdict__" : Str)) = false) :
    PE X (.Attribute (.Name x p) "value" pos) (tE P.exc (kx X) W (ev P cl (.val i))) := by
  refine ⟨fun pins s σ H Q I q => ?_⟩
  obtain ⟨Z, G, ι, h, ρ, R, S, q⟩ := q
  unfold ev at q
  split at q
  · rename_i c v e
    split at q
    · rename_i hc
      obtain ⟨w, e2, rw2⟩ := S.2 i _ e
      refine attr_of rfl (thn ((pe_var (X := X) (pos := p) hN hv hd hcd).run pins s σ H (fun y H1 => y = w ∧ H1 = H) I ⟨w, e2, rfl, rfl⟩) fun u s1 ⟨y, H1, I1, r1, ey, eH⟩ => ?_)
      subst ey eH
      cases rw2 with
      | @exn a C' dd _ _ vv hm h1 h2 r =>
        obtain rfl : u = Value.ref a := r1
        obtain ⟨T, hno⟩ := C.xf c (List.contains_iff_mem.mp hc) C' hm
        obtain ⟨⟨oe, vs, ha, hcls, hdict, hdat⟩, _, _⟩ := I1.hok a _ (R.sub _ _ h1)
        have hx : ObjOk X.prog X.w H1 s1.heap dd (.xd [(("value" : Str), vv)]) := I1.hok dd _ (R.sub _ _ h2)
        obtain ⟨mA, hns, hr⟩ := hx
        obtain ⟨od, ho, hl⟩ := lookIn_ns hns
        obtain ⟨u, hu, ru⟩ := RelO.some_of (v := vv) (o := mA "value") (hr "value")
        have J : PySem.W.InstAt s1.heap a oe C' (some od) := ⟨ha, hcls, by unfold PySem.W.notCls; rw [hdat] <;> rfl, by rw [hdict]; exact ho⟩
        exact HandSPX.exc_get I1.kIn J T.ga T.gg T.exC (PySem.W.findObj_own T.hdC hno rfl (by rw [hl, hu])) (handed_of ru) ⟨vv, H1, I1.tok _, ru, RP.ok_here q R r⟩
    · exact q.elim
  · exact q.elim
theorem stuck_e {exc : List Str} {K : Wr} {e : Expr} : PE X e (tE exc K W fun _ _ => .stuck) := ⟨fun _ _ _ _ _ _ q => by
  obtain ⟨Z, G, ι, h, ρ, R, S, q⟩ := q
  exact q.elim⟩
theorem stuck_w {exc : List Str} {K : Wr} {e : Expr} : PW X e (tT exc K W (truR fun _ _ => .stuck)) := ⟨fun _ _ _ _ _ _ _ q => by
  obtain ⟨Z, G, ι, h, ρ, R, S, q⟩ := q
  exact q.elim⟩
end
end Mx


set_option Elab.async false
set_option linter.all false
set_option maxRecDepth 100000
set_option maxHeartbeats 8000000
/-! What the checker takes runs as the small language says: expressions, all forms. -/
namespace Mx
open PySem PySem.Spec PyProof.Rows L2
section
variable {L : Lk} {P : Pg} {cl : Calls}
theorem both {exc : List Str} {W : WX} {X : Cx} {e : Expr} {r : Env' → MH → Res PV} (h : PE X e (tE exc (kx X) W r)) (he : ∀ whole, isTrue e X.env whole = (do let v ← whole; standAt e.pos; holding [v] (PySem.truthy v))) : PE X e (tE exc (kx X) W r) ∧ PT X e (tT exc (kx X) W (truR r)) := ⟨h, mt_plain h he⟩
theorem noSp {x : Str} (h : noSpecial x = true) : (x == ("__debug__" : Str)) = false ∧ (x == ("__classdict__" : Str)) = false := by
  unfold noSpecial at h
  simpa using h
theorem tys_of {sc : Scope} {N : List Str} {X : Cx} {W : WX} (C : Cg L P cl W X) : ∀ {ts : List String} {es : List Expr}, tyEs L X.env.scope ts es = true → (∀ u ∈ ts, u ∈ askT) ∧ Paired (fun t e => PE X e (tC (.ty t)) ∧ ∀ es', starEach (e :: es') X.env = (false, eval e X.env) :: starEach es' X.env) ts es
  | [], [], _ => ⟨fun _ h => absurd h List.not_mem_nil, .nil⟩
  | [], _ :: _, h => by cases h
  | _ :: _, [], h => by cases h
  | t :: ts, e :: es, h => by
    unfold tyEs at h
    rw [Bool.and_eq_true] at h
    obtain ⟨h1, h2⟩ := h
    obtain ⟨q1, q2⟩ := tys_of (sc := sc) (N := N) C h2
    cases e <;> try (cases h1; done)
    rename_i x p
    simp only [tyE, Bool.and_eq_true, beq_iff_eq] at h1
    obtain ⟨⟨e1, e2⟩, e3⟩ := h1
    obtain ⟨g1, g2, g3⟩ := free_of C e2
    have hm : t ∈ askT := List.contains_iff_mem.mp e3
    refine ⟨fun u hu => ?_, .cons ⟨me_type e1 hm g1 g3, fun es' => rfl⟩ q2⟩
    rcases List.mem_cons.mp hu with rfl | hu
    · exact hm
    · exact q1 u hu
mutual
theorem sX : ∀ (a : Ae) {W : WX} {X : Cx} (C : Cg L P cl W X) {e : Expr}, mE L X.N X.env.scope a e = true → PE X e (tE P.exc (kx X) W (ev P cl a)) ∧ PT X e (tT P.exc (kx X) W (truR (ev P cl a)))
  | .v i, W, X, C, e, hm => by
    cases e <;> try (cases hm; done)
    simp only [mE, Bool.and_eq_true, decide_eq_true_eq] at hm
    obtain ⟨⟨h1, h2⟩, h3⟩ := hm
    exact both (me_var h1 (vis_of h2) (noSp h3).1 (noSp h3).2) fun _ => rfl
  | .non, W, X, C, e, hm => by
    cases e <;> try (cases hm; done)
    rename_i c k p
    cases c <;> try (cases hm; done)
    exact both me_non fun _ => rfl
  | .bl b, W, X, C, e, hm => by
    cases e <;> try (cases hm; done)
    rename_i c k p
    cases c <;> try (cases hm; done)
    simp only [mE, beq_iff_eq] at hm
    subst hm
    exact both me_bl fun _ => rfl
  | .int i, W, X, C, e, hm => by
    cases e <;> try (cases hm; done)
    rename_i c k p
    cases c <;> try (cases hm; done)
    simp only [mE, decide_eq_true_eq] at hm
    subst hm
    exact both me_int fun _ => rfl
  | .str x, W, X, C, e, hm => by
    cases e <;> try (cases hm; done)
    rename_i c k p
    cases c <;> try (cases hm; done)
    simp only [mE, decide_eq_true_eq] at hm
    subst hm
    exact both me_str fun _ => rfl
  | .con x, W, X, C, e, hm => by
    cases e <;> try (cases hm; done)
    simp only [mE, Bool.and_eq_true, decide_eq_true_eq] at hm
    obtain ⟨⟨rfl, h2⟩, h3⟩ := hm
    obtain ⟨v, u, y, e1, e2, e3, e4⟩ := C.con _ (List.contains_iff_mem.mp h3)
    have e : ev P cl (.con x) = fun _ h => .ok v h := by
      funext ρ h
      unfold ev
      rw [e1]
    rw [e]
    exact both (me_con (gl_of h2).1 e2 e3 e4 (gl_of h2).2) fun _ => rfl
  | .tup es, W, X, C, e, hm => by
    cases e <;> try (cases hm; done)
    simp only [mE, Bool.and_eq_true, decide_eq_true_eq] at hm
    exact both (me_tup (sXs es C hm.1) fun ρ h xs h' e => by rw [evs_len e]; exact hm.2) fun _ => rfl
  | .lst r es, W, X, C, e, hm => by
    cases e <;> try (cases hm; done)
    simp only [mE, Bool.and_eq_true, decide_eq_true_eq] at hm
    exact both (me_lst (sXs es C hm.1) fun ρ h xs h' e => by rw [evs_len e]; exact hm.2) fun _ => rfl
  | .bin op r a b, W, X, C, e, hm => by
    cases e <;> try (cases hm; done)
    simp only [mE, Bool.and_eq_true] at hm
    exact both (me_bin hm.1.1 (sX a C hm.1.2).1 (sX b C hm.2).1) fun _ => rfl
  | .neg a, W, X, C, e, hm => by
    cases e <;> try (cases hm; done)
    rename_i op x p
    cases op <;> try (cases hm; done)
    exact both (me_neg (sX a C hm).1) fun _ => rfl
  | .not a, W, X, C, e, hm => by
    cases e <;> try (cases hm; done)
    rename_i op x p
    cases op <;> try (cases hm; done)
    have := sX a C hm
    exact ⟨me_not this.1, mt_not this.2⟩
  | .cmp op a b, W, X, C, e, hm => by
    cases e <;> try (cases hm; done)
    rename_i x os ys p
    rcases os with _ | ⟨o, _ | _⟩ <;> try (cases hm; done)
    rcases ys with _ | ⟨y, _ | _⟩ <;> try (cases hm; done)
    simp only [mE, Bool.and_eq_true] at hm
    have ha := (sX a C hm.1.2).1
    have hb := (sX b C hm.2).1
    exact ⟨me_cmp hm.1.1 C.un (ok_set (mE_ok hm.2)) ha hb, mt_cmp hm.1.1 C.un (ok_set (mE_ok hm.2)) ha hb⟩
  | .chain op op' a b c, W, X, C, e, hm => by
    cases e <;> try (cases hm; done)
    rename_i x os ys p
    rcases os with _ | ⟨o, _ | ⟨o', _ | _⟩⟩ <;> try (cases hm; done)
    rcases ys with _ | ⟨y, _ | ⟨z, _ | _⟩⟩ <;> try (cases hm; done)
    simp only [mE, Bool.and_eq_true] at hm
    have ha := (sX a C hm.1.1.2).1
    have hb := (sX b C hm.1.2).1
    have hc := (sX c C hm.2).1
    exact ⟨me_chain hm.1.1.1.1 hm.1.1.1.2 C.un (ok_set (mE_ok hm.1.2)) (ok_set (mE_ok hm.2)) ha hb hc, mt_chain hm.1.1.1.1 hm.1.1.1.2 C.un (ok_set (mE_ok hm.1.2)) (ok_set (mE_ok hm.2)) ha hb hc⟩
  | .and es, W, X, C, e, hm => by
    cases e <;> try (cases hm; done)
    rename_i op xs p
    cases op <;> try (cases hm; done)
    have := sAnd es C (show mEs L X.N X.env.scope es xs = true from hm) p
    exact ⟨this.1, this.2.pt⟩
  | .or es, W, X, C, e, hm => by
    cases e <;> try (cases hm; done)
    rename_i op xs p
    cases op <;> try (cases hm; done)
    have := sOr es C (show mEs L X.N X.env.scope es xs = true from hm) p
    exact ⟨this.1, this.2.pt⟩
  | .ifx c a b, W, X, C, e, hm => by
    cases e <;> try (cases hm; done)
    simp only [mE, Bool.and_eq_true] at hm
    have hc := sX c C hm.1.1
    have ha := sX a C hm.1.2
    have hb := sX b C hm.2
    exact ⟨me_ifx hc.2 ha.1 hb.1, mt_ifx hc.2 ha.2 hb.2⟩
  | .ix a i, W, X, C, e, hm => by
    cases e <;> try (cases hm; done)
    simp only [mE, Bool.and_eq_true] at hm
    exact both (me_ix (ok_slice (mE_ok hm.2)) (sX a C hm.1).1 (sX i C hm.2).1) fun _ => rfl
  | .sl r a lo hi, W, X, C, e, hm => by
    cases e <;> try (cases hm; done)
    rename_i x y p
    cases y <;> try (cases hm; done)
    rename_i l u st p2
    cases st <;> try (cases hm; done)
    simp only [mE, Bool.and_eq_true] at hm
    exact both (me_sl (sX a C hm.1.1).1 (sO lo C hm.1.2) (sO hi C hm.2)) fun _ => rfl
  | .call f es ks kes, W, X, C, e, hm => by
    cases e <;> try (cases hm; done)
    rename_i fn xs kws p
    cases fn <;> try (cases hm; done)
    simp only [mE, Bool.and_eq_true, decide_eq_true_eq, Bool.not_eq_true'] at hm
    obtain ⟨⟨⟨⟨⟨rfl, h2⟩, h3⟩, h4⟩, h5⟩, h6⟩ := hm
    obtain ⟨a, fd, ps, k, b, D, F, hr, hcl⟩ := C.fns h4 _ (List.contains_iff_mem.mp h3)
    exact both (me_call (cl := fun xs ys h => cl f xs ks ys h) D F hr C.tk (gl_of h2).1 (gl_of h2).2 (mEs_nostar h5) (kw_of h6) (sXs es C h5) (sKs kes C h6) (fun q ρ h => by
      have := mEs_len h5
      rw [q] at this
      cases es with
      | nil => rfl
      | cons _ _ => exact absurd this (by unfold Aes.len; simp)) (fun xs ys h => hcl xs ks ys h)) fun _ => rfl
  | .blt f r es, W, X, C, e, hm => by
    cases e <;> try (cases hm; done)
    rename_i fn xs kws p
    cases fn <;> try (cases hm; done)
    rename_i g gp
    cases kws with
    | cons _ _ => cases hm
    | nil =>
      simp only [mE, Bool.and_eq_true, decide_eq_true_eq, Bool.or_eq_true, Bool.not_eq_true'] at hm
      obtain ⟨⟨⟨⟨⟨h1, h2⟩, h3⟩, h4⟩, h5⟩, h6⟩ := hm
      have hl := mEs_len h5
      cases xs with
      | nil =>
        rw [h6] at hl
        cases f <;> cases hl
      | cons x xs =>
        have hn := nostar_at (mEs_nostar h5) X.env
        refine both ?_ fun _ => rfl
        refine me_blt h1 (gl_of h2).1 (fun q => ?_) ?_ (sXs es C h5) (gl_of h2).2 hn.1 (nostar_any hn.2)
        · rcases h4 with h4 | h4
          · rw [h4] at q; cases q
          · exact C.calm h4
        · split
          · rename_i ef
            rw [if_pos ef] at h3
            exact C.gcd h3
          · rename_i ef
            rw [if_neg ef] at h3
            exact fr_of C h3
  | .isi a ts, W, X, C, e, hm => by
    cases e <;> try (cases hm; done)
    rename_i fn xs kws p
    cases fn <;> try (cases hm; done)
    rename_i g gp
    cases kws with
    | cons _ _ => rcases xs with _ | ⟨x, _ | ⟨t, _ | _⟩⟩ <;> cases hm
    | nil =>
      rcases xs with _ | ⟨x, _ | ⟨t, _ | _⟩⟩ <;> try (cases hm; done)
      simp only [mE, Bool.and_eq_true, decide_eq_true_eq] at hm
      obtain ⟨⟨⟨h1, h2⟩, h3⟩, h4⟩ := hm
      obtain ⟨g1, g2, g3⟩ := free_of C h2
      have ha := (sX a C h3).1
      have hst := ok_star (mE_ok h3)
      split at h4
      · rename_i t1 nm np
        simp only [tyE, Bool.and_eq_true, beq_iff_eq] at h4
        obtain ⟨⟨e1, e2⟩, e3⟩ := h4
        obtain ⟨k1, k2, k3⟩ := free_of C e2
        have hmem : t1 ∈ askT := List.contains_iff_mem.mp e3
        exact both (me_isi1 h1 g1 g3 hmem ha (me_type e1 hmem k1 k3) (by rw [hst]; rfl) rfl) fun _ => rfl
      · rename_i us k tp _
        simp only [Bool.and_eq_true, decide_eq_true_eq] at h4
        obtain ⟨⟨q1, q2⟩, q3⟩ := h4
        obtain ⟨r1, r2⟩ := tys_of (sc := X.env.scope) (N := X.N) C q1
        exact both (me_isiT h1 g1 g3 r1 q2 ha r2 (by rw [hst]; rfl)) fun _ => rfl
      · cases h4
  | .met m o es, W, X, C, e, hm => by
    cases e <;> try (cases hm; done)
    rename_i fn xs kws p
    cases fn <;> try (cases hm; done)
    rename_i ox g ap
    cases kws with
    | cons _ _ => rcases xs with _ | ⟨x, _ | _⟩ <;> cases hm
    | nil =>
      rcases xs with _ | ⟨y, _ | _⟩ <;> try (cases hm; done)
      simp only [mE, Bool.and_eq_true, decide_eq_true_eq] at hm
      obtain ⟨⟨⟨⟨h1, h2⟩, h3⟩, h4⟩, h5⟩ := hm
      have hn := nostar_at (mEs_nostar h4) X.env
      exact both (me_met h1 h2 h5 (sX o C h3).1 (sXs es C h4) (by rw [hn.1]; rfl) fun ρ h xs h' e => by rw [evs_len e, mEs_len h4]; rfl) fun _ => rfl
  | .comp r elt g it ifs own, W, X, C, e, hm => by
    cases e <;> try (cases hm; done)
    rename_i ex gens scope p
    rcases gens with _ | ⟨⟨tg, iter, fs, asy⟩, _ | _⟩
    · cases hm
    · by_cases hz : asy = 0
      · subst hz
        simp only [mE, Bool.and_eq_true, decide_eq_true_eq, Bool.not_eq_true'] at hm
        obtain ⟨⟨⟨⟨⟨⟨h0, h1⟩, h2⟩, h3⟩, h4⟩, h5⟩, h6⟩ := hm
        have hc := C.calm h0
        refine both (me_comp (rt := evIfs P cl ifs) hc C.nd (sI (tg := tg) it C h3).1 (blkOk_by h1) h2 (fun s H C' cls fp => ?_) (fun s H C' cls fp => ?_) (fun s H C' cls fp => ?_) (sI (tg := tg) it C h3).2) fun _ => rfl
        · exact sG (X := X.blk s H scope (compEnvC scope cls C' X.env) fp) hc C.nd (fun x hx => hx) h4
        · exact sIfs ifs (C.blk s H scope (compEnvC scope cls C' X.env) fp) h5
        · exact (sX elt (C.blk s H scope (compEnvC scope cls C' X.env) fp) h6).1
      · exact absurd hm (by simp [mE, hz])
    · exact absurd hm (by simp [mE])
  | .val i, W, X, C, e, hm => by
    cases e <;> try (cases hm; done)
    rename_i o at_ p
    cases o <;> try (cases hm; done)
    simp only [mE, Bool.and_eq_true, decide_eq_true_eq] at hm
    obtain ⟨⟨⟨h1, h2⟩, h3⟩, rfl⟩ := hm
    exact both (me_val C h1 (.inl (onlyLoc_of h2)) (noSp h3).1 (noSp h3).2) fun _ => rfl
theorem sXs : ∀ (as : Aes) {W : WX} {X : Cx} (C : Cg L P cl W X) {es : List Expr}, mEs L X.N X.env.scope as es = true → PA X es (tA P.exc (kx X) W (evs P cl as))
  | .nil, W, X, C, es, hm => by
    cases es with
    | cons _ _ => cases hm
    | nil => exact me_nil
  | .cons a as, W, X, C, es, hm => by
    cases es with
    | nil => cases hm
    | cons e es =>
      simp only [mEs, Bool.and_eq_true] at hm
      exact me_cons (sX a C hm.1).1 (sXs as C hm.2) (ok_star (mE_ok hm.1) es X.env)
theorem sKs : ∀ (as : Aes) {W : WX} {X : Cx} (C : Cg L P cl W X) {ks : List Str} {kws : List Keyword}, mKs L X.N X.env.scope ks as kws = true → PK X kws (tA P.exc (kx X) W (evs P cl as))
  | .nil, W, X, C, ks, kws, hm => by
    cases ks with
    | cons _ _ => cases hm
    | nil => cases kws with
      | cons _ _ => cases hm
      | nil => exact mk_nil
  | .cons a as, W, X, C, ks, kws, hm => by
    cases ks with
    | nil => cases hm
    | cons k ks => cases kws with
      | nil => cases hm
      | cons kw kws =>
        obtain ⟨n, e, kp⟩ := kw
        cases n with
        | none => cases hm
        | some n =>
          simp only [mKs, Bool.and_eq_true] at hm
          exact mk_cons (sX a C hm.1.2).1 (sKs as C hm.2)
theorem sAnd : ∀ (as : Aes) {W : WX} {X : Cx} (C : Cg L P cl W X) {es : List Expr}, mEs L X.N X.env.scope as es = true → ∀ pos, PE X (.BoolOp .And es pos) (tE P.exc (kx X) W (evAnd P cl as)) ∧ PW X (.BoolOp .And es pos) (tT P.exc (kx X) W (truR (evAnd P cl as)))
  | .nil, W, X, C, es, hm, pos => ⟨stuck_e, stuck_w⟩
  | .cons a .nil, W, X, C, es, hm, pos => by
    rcases es with _ | ⟨e, _ | _⟩ <;> try (cases hm; done)
    · simp only [mEs, Bool.and_eq_true] at hm
      have := sX a C hm.1
      exact ⟨me_one this.1, mw_and1 this.2⟩
    · simp only [mEs, Bool.and_eq_true] at hm
      cases hm.2
  | .cons a (.cons b as), W, X, C, es, hm, pos => by
    rcases es with _ | ⟨e, _ | ⟨e2, es⟩⟩ <;> try (cases hm; done)
    · simp only [mEs, Bool.and_eq_true] at hm
      cases hm.2
    · unfold mEs at hm
      rw [Bool.and_eq_true] at hm
      have h1 := sX a C hm.1
      have h2 := sAnd (.cons b as) C hm.2 pos
      exact ⟨me_and h1.1 h2.1, mw_and h1.2 h2.2⟩
theorem sOr : ∀ (as : Aes) {W : WX} {X : Cx} (C : Cg L P cl W X) {es : List Expr}, mEs L X.N X.env.scope as es = true → ∀ pos, PE X (.BoolOp .Or es pos) (tE P.exc (kx X) W (evOr P cl as)) ∧ PW X (.BoolOp .Or es pos) (tT P.exc (kx X) W (truR (evOr P cl as)))
  | .nil, W, X, C, es, hm, pos => ⟨stuck_e, stuck_w⟩
  | .cons a .nil, W, X, C, es, hm, pos => by
    rcases es with _ | ⟨e, _ | _⟩ <;> try (cases hm; done)
    · simp only [mEs, Bool.and_eq_true] at hm
      have := sX a C hm.1
      exact ⟨me_one this.1, mw_or1 this.2⟩
    · simp only [mEs, Bool.and_eq_true] at hm
      cases hm.2
  | .cons a (.cons b as), W, X, C, es, hm, pos => by
    rcases es with _ | ⟨e, _ | ⟨e2, es⟩⟩ <;> try (cases hm; done)
    · simp only [mEs, Bool.and_eq_true] at hm
      cases hm.2
    · unfold mEs at hm
      rw [Bool.and_eq_true] at hm
      have h1 := sX a C hm.1
      have h2 := sOr (.cons b as) C hm.2 pos
      exact ⟨me_or h1.1 h2.1, mw_or h1.2 h2.2⟩
theorem sO : ∀ (a : Ao) {W : WX} {X : Cx} (C : Cg L P cl W X) {e : Option Expr}, mO L X.N X.env.scope a e = true → PO X e (tOi P.exc (kx X) W (evo P cl a))
  | .none, W, X, C, e, hm => by
    cases e with
    | some _ => cases hm
    | none => exact mo_none
  | .some a, W, X, C, e, hm => by
    cases e with
    | none => cases hm
    | some e => exact mo_some (sX a C hm).1
theorem sIfs : ∀ (a : Ao) {W : WX} {X : Cx} (C : Cg L P cl W X) {es : List Expr}, mIfs L X.N X.env.scope a es = true → PTs X es (tT P.exc (kx X) W (evIfs P cl a))
  | .none, W, X, C, es, hm => by
    cases es with
    | cons _ _ => cases hm
    | nil => exact mt_none
  | .some a, W, X, C, es, hm => by
    rcases es with _ | ⟨e, _ | _⟩ <;> try (cases hm; done)
    exact mt_some (sX a C hm).2
theorem sI : ∀ (a : Ai) {W : WX} {X : Cx} (C : Cg L P cl W X) {tg e : Expr}, mI L X.N X.env.scope a e = true → PI X tg e (tI P.exc (kx X) W (evi P cl a)) ∧ ∀ x, foldedSetIterable e X.env x = pure x
  | .ex a, W, X, C, tg, e, hm => ⟨mi_any (sX a C hm).1, ok_fold (mE_ok (show mE L X.N X.env.scope a e = true from hm)) X.env⟩
  | .range1 a, W, X, C, tg, e, hm => by
    cases e <;> try (cases hm; done)
    rename_i fn xs kws p
    cases fn <;> try (cases hm; done)
    cases kws with
    | cons _ _ => rcases xs with _ | ⟨x, _ | _⟩ <;> cases hm
    | nil =>
      rcases xs with _ | ⟨x, _ | _⟩ <;> try (cases hm; done)
      simp only [mI, Bool.and_eq_true, decide_eq_true_eq] at hm
      obtain ⟨⟨rfl, h2⟩, h3⟩ := hm
      obtain ⟨g1, g2, g3⟩ := free_of C h2
      exact ⟨mi_range1 g1 g3 (sX a C h3).1 (ok_star (mE_ok h3) [] X.env), fun _ => rfl⟩
  | .range2 a b, W, X, C, tg, e, hm => by
    cases e <;> try (cases hm; done)
    rename_i fn xs kws p
    cases fn <;> try (cases hm; done)
    cases kws with
    | cons _ _ => rcases xs with _ | ⟨x, _ | ⟨y, _ | _⟩⟩ <;> cases hm
    | nil =>
      rcases xs with _ | ⟨x, _ | ⟨y, _ | _⟩⟩ <;> try (cases hm; done)
      simp only [mI, Bool.and_eq_true, decide_eq_true_eq] at hm
      obtain ⟨⟨⟨rfl, h2⟩, h3⟩, h4⟩ := hm
      obtain ⟨g1, g2, g3⟩ := free_of C h2
      exact ⟨mi_range2 g1 g3 (sX a C h3).1 (sX b C h4).1 (by rw [ok_star (mE_ok h3), ok_star (mE_ok h4)]; rfl) (by rw [ok_star (mE_ok h4)]; rfl), fun _ => rfl⟩
end
end
end Mx


set_option Elab.async false
set_option linter.all false
set_option maxRecDepth 100000
set_option maxHeartbeats 8000000
/-! Statements: what is wanted behind them; try. -/
namespace Mx
open PySem PySem.Spec PyProof.Rows L2

/-- what is wanted behind a run of statements -/
def OP (exc : List Str) (K : Wr) (W : WX) (Z : List Addr) (G : Hp) (ι : List Addr) (H : Hp) (o : Out) (D : Ends) : Prop := match o with
  | .nx ρ h' => ∀ G' ι' H' σ', Nx K Z G ι H G' ι' h' H' → SR K G' ι' ρ σ' → D.nx σ' H'
  | .bk ρ h' => ∀ G' ι' H' σ', Nx K Z G ι H G' ι' h' H' → SR K G' ι' ρ σ' → D.bk σ' H'
  | .ct ρ h' => ∀ G' ι' H' σ', Nx K Z G ι H G' ι' h' H' → SR K G' ι' ρ σ' → D.ct σ' H'
  | .rt v h' => ∀ G' ι' H' x, Nx K Z G ι H G' ι' h' H' → RV K G' ι' v x → D.rt x H'
  | .exn c v ρ h' => c ∈ exc ∧ ∀ G' ι' H' σ' C dd x, Nx K Z G ι H G' ι' h' H' → SR K G' ι' ρ σ' → K.mg c = some (.ref C) → G' dd = some (.xd [(("value" : Str), x)]) → RV K G' ι' v x → W (.ref C) (some dd) σ' H'
  | .stuck => False
/-- a row of statements' reading: what its run hands on -/
def tS (exc : List Str) (K : Wr) (W : WX) (r : Env' → MH → Out) : TS := fun D σ H => ∃ Z G ι h ρ, HR K Z G ι h H ∧ SR K G ι ρ σ ∧ OP exc K W Z G ι H (r ρ h) D
section
variable {exc : List Str} {K : Wr} {W W' : WX} {Z : List Addr} {G G1 : Hp} {ι ι1 : List Addr} {h h1 : MH} {H H1 : Hp} {α β : Type} {D : Ends}
variable {R : Hp → List Addr → α → β → Prop}
theorem OP.later {o : Out} (p : OP exc K W Z G ι H o D) (n : Nx K Z G ι H G1 ι1 h1 H1) : OP exc K W Z G1 ι1 H1 o D := by
  cases o with
  | nx ρ h' => exact fun G' ι' H' σ' n' S => p G' ι' H' σ' (n.trans n') S
  | bk ρ h' => exact fun G' ι' H' σ' n' S => p G' ι' H' σ' (n.trans n') S
  | ct ρ h' => exact fun G' ι' H' σ' n' S => p G' ι' H' σ' (n.trans n') S
  | rt v h' => exact fun G' ι' H' x n' S => p G' ι' H' x (n.trans n') S
  | exn c v ρ h' => exact ⟨p.1, fun G' ι' H' σ' C dd x n' S => p.2 G' ι' H' σ' C dd x (n.trans n') S⟩
  | stuck => exact p
theorem OP.out {ρ : Env'} {σ : L2.St} {r : Res α} {f : α → MH → Out} {Q1 : β → Hp → Prop} (S : SR K G ι ρ σ) (p : OP exc K W Z G ι H (r.out ρ f) D)
    (k : ∀ a h1 G1 ι1 H1 b, Nx K Z G ι H G1 ι1 h1 H1 → R G1 ι1 a b → OP exc K W Z G1 ι1 H1 (f a h1) D → Q1 b H1) : RP exc K R Z G ι H r Q1 (fun cls d H' => W cls d σ H') := by
  cases r with
  | ok a h' => exact fun G' ι' H' b n q => k a h' G' ι' H' b n q (OP.later p n)
  | exn c v h' => exact ⟨p.1, fun G' ι' H' C dd x n a b q => p.2 G' ι' H' σ C dd x n (S.mono n.same n.pre) a b q⟩
  | stuck => exact p
theorem OP.seq {o : Out} {f : Env' → MH → Out} {N : L2.St → Hp → Prop} (p : OP exc K W Z G ι H (o.seq f) D)
    (k : ∀ ρ1 h1 G1 ι1 H1 σ1, Nx K Z G ι H G1 ι1 h1 H1 → SR K G1 ι1 ρ1 σ1 → OP exc K W Z G1 ι1 H1 (f ρ1 h1) D → N σ1 H1) : OP exc K W Z G ι H o { D with nx := N } := by
  cases o with
  | nx ρ h' => exact fun G' ι' H' σ' n S => k ρ h' G' ι' H' σ' n S (OP.later p n)
  | bk ρ h' => exact p
  | ct ρ h' => exact p
  | rt v h' => exact p
  | exn c v ρ h' => exact p
  | stuck => exact p
theorem OP.turn {o : Out} {f : Env' → MH → Out} {N : L2.St → Hp → Prop} (p : OP exc K W Z G ι H (o.turn f) D)
    (k : ∀ ρ1 h1 G1 ι1 H1 σ1, Nx K Z G ι H G1 ι1 h1 H1 → SR K G1 ι1 ρ1 σ1 → OP exc K W Z G1 ι1 H1 (f ρ1 h1) D → N σ1 H1) : OP exc K W Z G ι H o { D with nx := N, ct := N, bk := D.nx } := by
  cases o with
  | nx ρ h' => exact fun G' ι' H' σ' n S => k ρ h' G' ι' H' σ' n S (OP.later p n)
  | bk ρ h' => exact p
  | ct ρ h' => exact fun G' ι' H' σ' n S => k ρ h' G' ι' H' σ' n S (OP.later p n)
  | rt v h' => exact p
  | exn c v ρ h' => exact p
  | stuck => exact p
theorem OP.nx_here {ρ : Env'} {σ : L2.St} (p : OP exc K W Z G ι H (.nx ρ h) D) (R : HR K Z G ι h H) (S : SR K G ι ρ σ) : D.nx σ H := p G ι H σ (Nx.refl R) S
theorem OP.noxW {o : Out} (p : OP exc K W Z G ι H o.nox D) : OP exc K W' Z G ι H o D := by
  cases o with
  | nx ρ h' => exact p
  | bk ρ h' => exact p
  | ct ρ h' => exact p
  | rt v h' => exact p
  | exn c v ρ h' => exact p.elim
  | stuck => exact p
theorem OP.gone {o : Out} {i : Nat} (p : OP exc K W Z G ι H (o.gone i) D) : OP exc K W' Z G ι H o { nx := fun σ' H' => D.nx (σ'.set i none) H', rt := D.rt, bk := fun σ' H' => D.bk (σ'.set i none) H', ct := fun σ' H' => D.ct (σ'.set i none) H' } := by
  cases o with
  | nx ρ h' => exact fun G' ι' H' σ' n S => p G' ι' H' _ n (S.clear i)
  | bk ρ h' => exact fun G' ι' H' σ' n S => p G' ι' H' _ n (S.clear i)
  | ct ρ h' => exact fun G' ι' H' σ' n S => p G' ι' H' _ n (S.clear i)
  | rt v h' => exact p
  | exn c v ρ h' => exact p.elim
  | stuck => exact p
end

/-! ### try -/
section
variable {X : Cx} {pins : List (Addr × Obj)} {σ : L2.St} {H : Hp} {sI s3 : Shared} {a : Addr} {o : HO}
/-- a thing that stands in the heap is looked after from now on -/
theorem inv_track (J : Inv X pins σ H sI) (J3 : Inv X pins σ H s3) (ha : sI.heap.get? a = none) (hn : H a = none) (new : ObjOk X.prog X.w (upd H a o) s3.heap a o) : Inv X pins σ (upd H a o) s3 := by
  have neOf : ∀ {b u}, sI.heap.get? b = some u → b ≠ a := fun {b u} e z => by rw [z, ha] at e; cases e
  refine ⟨J3.ok, J3.os, J3.bare, ⟨J3.base.keep, J3.base.slot, fun b ob e n hx => ?_, J3.base.there, fun b xs e => ?_, fun b ob xs e => ?_, fun b ps e => ?_⟩, J3.loc, J3.cell, ?_, fun x c e => ?_, fun p hp => ?_, fun b u e => ?_, J3.len⟩
  · obtain ⟨o', q⟩ := J.base.there b ob e hx
    rw [upd_ne (neOf q)]; exact J3.base.free b ob e n hx
  · rw [upd_ne (ne_of_none (J3.base.tups b xs e) hn)]; exact J3.base.tups b xs e
  · rw [upd_ne (ne_of_none (J3.base.frzs b ob xs e) hn)]; exact J3.base.frzs b ob xs e
  · obtain ⟨more, q⟩ := J3.base.tbls b ps e
    exact ⟨more, by rw [upd_ne (ne_of_none q hn)]; exact q⟩
  · obtain ⟨m, hm, _⟩ := J.loc
    obtain ⟨ob, _, _, q, _⟩ := hm
    rw [upd_ne (neOf q)]; exact J3.free
  · obtain ⟨v, z⟩ := J.cell x c e
    obtain ⟨ob, q, _⟩ := z
    rw [upd_ne (neOf q)]; exact J3.freeC x c e
  · obtain ⟨e1, e2, e3, e4, e5⟩ := J3.pin p hp
    rw [upd_ne (neOf (J.pin p hp).1)]
    exact ⟨e1, e2, e3, e4, e5⟩
  · by_cases hb : b = a
    · subst hb; rw [upd_same] at e; cases e; exact new
    · rw [upd_ne hb] at e
      exact (J3.hok b u e).stay (fun _ _ _ q => q) (fun c q => by rw [upd_ne (ne_of_none q hn)]; exact q) fun c xs q => by rw [upd_ne (ne_of_none q hn)]; exact q
end
/-- one except clause: its class, the slot of its name, what its suite does -/
abbrev HdT := Value × Option Nat × TS
def wEnd (D : Ends) : Option Nat → Ends
  | none => D
  | some i => { nx := fun σ' H' => D.nx (σ'.set i none) H', rt := D.rt, bk := fun σ' H' => D.bk (σ'.set i none) H', ct := fun σ' H' => D.ct (σ'.set i none) H' }
def wSet (σ : L2.St) (a : Addr) : Option Nat → L2.St
  | none => σ
  | some i => σ.set i (some (.ref a))
/-- what the clauses wish of an exception of the body -/
def wHds (K : PySem.W.Frag) (Wout : WX) (D : Ends) : List HdT → WX
  | [] => Wout
  | (c, i, ts) :: r => fun cls d σ H => ∃ b, PySem.W.exmOne K cls c = some b ∧ (b = true → ∃ C dd, cls = .ref C ∧ d = some dd ∧ ∀ a, H a = none → ts (wEnd D i) (wSet σ a i) (upd H a (ExV C dd a))) ∧ (b = false → wHds K Wout D r cls d σ H)
/-- a clause's name is a local -/
def HdN (X : Cx) : Option Str → Option Nat → Prop
  | none, none => True
  | some n, some i => X.N[i]? = some n ∧ X.env.kindOf n = some .local
  | _, _ => False
inductive HdsK (X : Cx) : List ExceptHandler → List HdT → Prop
  | nil : HdsK X [] []
  | cons {x : Str} {c : Value} {i : Option Nat} {n : Option Str} {ts : TS} {b₀ : Stmt} {suite : List Stmt} {np pos' : Pos} {hds : List ExceptHandler} {l : List HdT} (hc : Names X x c) (hn : HdN X n i)
      (hsu : ∀ (a : Addr) (pn : List (Addr × Obj)), PSs (X.suite a pn) (b₀ :: suite) ts) (r : HdsK X hds l) :
      HdsK X (.ExceptHandler (some (.Name x np)) n (b₀ :: suite) pos' :: hds) ((c, i, ts) :: l)
section
variable {X : Cx} {body : List Stmt} {h₀ : ExceptHandler} {hds : List ExceptHandler} {l : List HdT} {pos : Pos} {tb : WX → TS} {Wout : WX}
theorem ps_try_own (hs : X.stack = X.env :: X.outer) (hf : X.env.frame = some X.env.locals) (hN : X.N.Nodup) (tk : Takes X Wout)
    (hb : ∀ (W : WX) (pn : List (Addr × Obj)) (xe : Value → Shared → Prop), Takes (X.tr pn xe) W → PassesOwn (model X.prog X.w) X.A X.env xe → PSs (X.tr pn xe) body (tb W))
    (hh : HdsK X (h₀ :: hds) l) : PS X (.Try body (h₀ :: hds) [] [] pos) (fun D σ H => tb (wHds X.K Wout D l) D σ H) := by
  refine ⟨fun pins s σ H D I h => ?_⟩
  have ok := I.ok
  have hfr : X.A.frames = some (X.env :: X.outer) := by rw [ok.frames, hs]
  refine wpAny_Try_except ?_
  refine wpAny_mono ((hb (wHds X.K Wout D l) (X.pn ++ pins) (fun e s₁ => wpAny (model X.prog X.w) X.A (noteFrame e X.env) (fun _ s₂ => wpAny (model X.prog X.w) X.A (setFlight e none) (fun _ s₃ =>
    wpAny (model X.prog X.w) X.A (handleBy e X.env (h₀ :: hds)) (SP X pins D) X.xe s₃) X.xe s₂) X.xe s₁) (fun u s' xx => ?_) PassesOwn.looking).run [] s σ H D (I.toTry _) h) (fun f s1 hsp => ?_) (fun e s1 he => he)
  · -- the catch
    obtain ⟨a, B, sI, pins', σ', H', cls, d, rfl, J', nb, up, sky, na, os, ag, w⟩ := xx
    have J : Inv X pins σ' H' sI := J'.ofTry ok
    have sky' : Sky B (X.env :: X.outer) a (Zc cls d) X.env.locals s'.heap := by rw [← hs]; exact sky
    show wpAny (model X.prog X.w) X.A (noteFrame (.ref a) X.env) _ _ _
    refine Sky.land Zc.steady hfr hf sky' fun h3 fl3 up3 => ?_
    have J3 : Inv X pins σ' H' { s' with heap := h3 } := J.landed nb fl3.1 (up.trans up3) os ag
    obtain ⟨oe3, vs3, he3, hz3, hd3⟩ := fl3.there
    have notFr : ∀ {h : Heap} {o : Obj} {vs : Array Value}, h.FunFrames B (X.env :: X.outer) → h.get? a = some o → o.data = .fields vs → a ∉ frs (X.env :: X.outer) := fun {h o vs} ff e dd hm => by
      obtain ⟨_, o', e', hnf⟩ := ff.mem hm
      rw [e] at e'; cases e'
      exact hnf _ dd
    have nfr := notFr fl3.2.2.1 he3 hd3
    have haI : sI.heap.get? a = none := by
      cases q : sI.heap.get? a with
      | none => rfl
      | some o =>
        have := nb a o q (by rw [hs]; exact nfr)
        rw [fl3.2.1] at this; cases this
    have nL : a ≠ X.env.locals := fun z => nfr (List.mem_filterMap.mpr ⟨X.env, List.mem_cons_self, by rw [hf, z]⟩)
    have nF : a ∉ X.fs := fun hm => by
      obtain ⟨e, he, q⟩ := List.mem_filterMap.mp hm
      exact nfr (List.mem_filterMap.mpr ⟨e, List.mem_cons_of_mem _ he, q⟩)
    have S3 := J3.suite he3 hd3 na nL nF
    have go : ∀ {hds' : List ExceptHandler} {l' : List HdT}, HdsK X hds' l' → wHds X.K Wout D l' cls d σ' H' →
        wpAny (model X.prog X.w) X.A (handleBy (.ref a) X.env hds') (SP X pins D) X.xe { s' with heap := h3 } := by
      intro hds' l' hk
      induction hk with
      | nil =>
        intro w
        refine wpAny_handleBy_nil ?_
        obtain ⟨k1, k2, k3, oe, vs, T, oT, ts', he, hz, hd, h1, hr⟩ := id fl3
        unfold PySem.passOn
        refine wpAny_bind (wpAny_field he hd h1 ?_)
        rw [if_neg (show ¬ ((Value.ref T == Value.none) = true) from by simp)]
        have fin : wpAny (model X.prog X.w) X.A (setFlight (.ref a) X.env.frame) (fun _ s4 => wpAny (model X.prog X.w) X.A (throw (.ref a) : Sem Flow) (SP X pins D) X.xe s4) X.xe { s' with heap := h3 } := by
          rw [hf]
          refine HandSPX.setFlight_upZ fl3 fun h4 hh4 up4 => wpAny_throw (tk _ _ ?_)
          exact ⟨a, B, sI, pins, σ', H', cls, d, rfl, J, nb, (up.trans up3).trans up4, .inr (.inr (by rw [hs]; exact hh4)), na, os, ag, w⟩
        first
          | exact wpAny_bind (wpAny_pure (wpAny_bind fin))
          | exact wpAny_bind fin
      | @cons x c i n ts b₀ suite np pos' hds2 l2 hc hn hsu r ih =>
        intro w
        obtain ⟨b, hb1, hyes, hno⟩ := w
        refine wpAny_handleBy_cons (codeAny_handlers_test ?_) (by intro q; cases q)
        have LT : PySem.W.Looks (model X.prog X.w) h3 (typeOf (.ref a)) cls := fun A Q E s k q => wpAny_typeOf_ref (k _ _ he3) (by rw [hz3.1]; exact q)
        have LM := PySem.W.exm_one (M := model X.prog X.w) (J3.kIn) LT hb1
        have test : ∀ {Q : Value → Shared → Prop} {E : Value → Shared → Prop}, Q c { s' with heap := h3 } → wpAny (model X.prog X.w) (X.A.mark (some (.ref a))) (eval (.Name x np) X.env) Q E { s' with heap := h3 } := fun {Q E} q => by
          obtain ⟨hg, hdbg, hm | ⟨hm, hv, hnn⟩⟩ := hc
          · exact ld_glob (X := X.suite a ((a, oe3) :: (X.pn ++ pins))) S3 hg hm q hdbg
          · exact ld_blt (X := X.suite a ((a, oe3) :: (X.pn ++ pins))) S3 hg hm hv q hnn hdbg
        refine test (LM.here ?_)
        cases b with
        | true =>
          obtain ⟨C, dd, ec, ed, hy⟩ := hyes rfl
          subst ec ed
          -- the suite, from the landed state
          have track : ∀ {h4 : Heap}, HandSPX.FlyingZ B (X.env :: X.outer) a (Zc (.ref C) (some dd)) h4 → h3.UpToSlots h4 → Inv (X.suite a (X.pn ++ pins)) [] σ' (upd H' a (ExV C dd a)) { s' with heap := h4 } := by
            intro h4 fl4 up4
            have J4 : Inv X pins σ' H' { s' with heap := h4 } := J.landed nb fl4.1 ((up.trans up3).trans up4) os ag
            obtain ⟨oe4, vs4, he4, hz4, hd4⟩ := fl4.there
            have T4 : Inv X pins σ' (upd H' a (ExV C dd a)) { s' with heap := h4 } := inv_track J J4 haI na
              ⟨⟨oe4, vs4, he4, hz4.1, hz4.2, hd4⟩, ⟨_, he4⟩, fun g1 g2 ⟨oe, vs, e1, e2, e3, e4⟩ k => ⟨oe, vs, k _ e1, e2, e3, e4⟩⟩
            exact ⟨T4.ok.suite _ _, T4.os, T4.bare, T4.base, T4.loc, T4.cell, T4.free, T4.freeC, fun p hp => by
              have hp' : p ∈ X.pn ++ pins := by rw [List.append_nil] at hp; exact hp
              exact T4.pin p hp', T4.hok, T4.len⟩
          have back : ∀ {σ6 : L2.St} {H6 : Hp} {s6 : Shared}, Inv (X.suite a (X.pn ++ pins)) [] σ6 H6 s6 → Inv X pins σ6 H6 s6 := fun {σ6 H6 s6} I6 =>
            ⟨ok, I6.os, I6.bare, I6.base, I6.loc, I6.cell, I6.free, I6.freeC, fun p hp => I6.pin p (List.mem_append_left _ hp), I6.hok, I6.len⟩
          cases n with
          | none =>
            cases i with
            | some _ => exact hn.elim
            | none =>
              refine codeAny_handlers_suite ?_
              refine HandSPX.lands_againZ fl3 fun h4 fl4 up4 => ?_
              have S4 := track fl4 up4
              refine wpAny_mono ((hsu a (X.pn ++ pins)).run [] _ _ _ _ S4 (hy a na)) (fun f s6 hsp => ?_) (fun _ _ z => False.elim z)
              cases f with
              | next =>
                obtain ⟨σ6, H6, S6, q6⟩ := hsp
                exact ⟨_, _, back S6, q6⟩
              | brk =>
                obtain ⟨σ6, H6, S6, q6⟩ := hsp
                exact ⟨_, _, back S6, q6⟩
              | cont =>
                obtain ⟨σ6, H6, S6, q6⟩ := hsp
                exact ⟨_, _, back S6, q6⟩
              | ret u =>
                obtain ⟨v6, σ6, H6, S6, r6, q6⟩ := hsp
                exact ⟨_, _, _, back S6, r6, q6⟩
          | some n =>
            cases i with
            | none => exact hn.elim
            | some i =>
              obtain ⟨hi, hln⟩ := hn
              have hloc : Loc X.env.scope n := .inl hln
              refine codeAny_handlers_suite_as ?_
              refine HandSPX.lands_againZ fl3 fun h4 fl4 up4 => ?_
              have S4 := track fl4 up4
              refine store_ok (X := X.suite a (X.pn ++ pins)) (v := .ref a) S4 hN hi hloc rfl (fun s5 S5 => ?_) (.inr hln)
              refine wpAny_mono ((hsu a (X.pn ++ pins)).run [] s5 _ _ _ S5 (hy a na)) (fun f s6 hsp => ?_) (fun _ _ z => False.elim z)
              have end_ : ∀ {σ6 : L2.St} {H6 : Hp} {Q : Shared → Prop}, Inv (X.suite a (X.pn ++ pins)) [] σ6 H6 s6 → (∀ s7, Inv X pins (σ6.set i none) H6 s7 → Q s7) →
                  wpAny (model X.prog X.w) X.A (do bindName X.env n .none; unbindBehindTheSuite X.env n pos') (fun _ s7 => Q s7) X.xe s6 := fun {σ6 H6 Q} S6 hq => gone_ok (back S6) hN hi hln hq
              cases f with
              | next =>
                obtain ⟨σ6, H6, S6, q6⟩ := hsp
                exact end_ S6 fun s7 J7 => ⟨_, _, J7, q6⟩
              | brk =>
                obtain ⟨σ6, H6, S6, q6⟩ := hsp
                exact end_ S6 fun s7 J7 => ⟨_, _, J7, q6⟩
              | cont =>
                obtain ⟨σ6, H6, S6, q6⟩ := hsp
                exact end_ S6 fun s7 J7 => ⟨_, _, J7, q6⟩
              | ret u =>
                obtain ⟨v6, σ6, H6, S6, r6, q6⟩ := hsp
                exact end_ S6 fun s7 J7 => ⟨_, _, _, J7, r6, q6⟩
        | false =>
          show wpAny _ X.A (handleBy (.ref a) X.env hds2) _ _ _
          exact ih (hno rfl)
    exact go hh w
  · cases f with
    | next =>
      obtain ⟨σ', H', J', q⟩ := hsp
      exact wpAny_execs_nil ⟨σ', H', J'.ofTry ok, q⟩
    | brk =>
      obtain ⟨σ', H', J', q⟩ := hsp
      exact ⟨σ', H', J'.ofTry ok, q⟩
    | cont =>
      obtain ⟨σ', H', J', q⟩ := hsp
      exact ⟨σ', H', J'.ofTry ok, q⟩
    | ret u =>
      obtain ⟨v, σ', H', J', r, q⟩ := hsp
      exact ⟨v, σ', H', J'.ofTry ok, r, q⟩
end
end Mx


set_option Elab.async false
set_option linter.all false
set_option maxRecDepth 100000
set_option maxHeartbeats 8000000
/-! Statements: stores, raise. -/
namespace Mx
open PySem PySem.Spec PyProof.Rows L2

/-- no comprehension -/
def notComp : Expr → Bool
  | .ListComp _ _ _ _ => false
  | .SetComp _ _ _ _ => false
  | .DictComp _ _ _ _ _ => false
  | _ => true
theorem sw_none {e : Expr} (h : notComp e = true) (t : Option Expr) (l : Nat) (env : Env) : swapsWith e t l env = pure false := by
  cases e <;> first | rfl | cases h
theorem sw_comp {elt : Expr} {gs : List Comprehension} {scope : Scope} {p pos : Pos} {t : Str} {l : Nat} {env : Env} (hk : env.scope.kind = .function) : swapsWith (.ListComp elt gs scope p) (some (.Name t pos)) l env =
    pure (env.scope.names.lookup t == some .local && pos.line == p.line && !(scope.names.any fun (n, k) => n == t && (k == .local || k == .cell))) := by
  have hb : env.blockKind = .function := by unfold Env.blockKind; rw [hk]; rfl
  unfold swapsWith
  simp only [hb]
  rfl
theorem sw_sub {e o i : Expr} {p : Pos} {l : Nat} {env : Env} : swapsWith e (some (.Subscript o i p)) l env = pure false := by
  cases e <;> rfl

/-! ### names from the right -/
def setAll : L2.St → List Nat → List V → L2.St
  | σ, i :: is, v :: vs => setAll (σ.set i (some v)) is vs
  | σ, _, _ => σ
theorem setAll_set {i : Nat} {v : V} : ∀ {is : List Nat} {vs : List V} {σ : L2.St}, i ∉ is → setAll (σ.set i (some v)) is vs = (setAll σ is vs).set i (some v)
  | [], _, _, _ => by unfold setAll; rfl
  | j :: is, [], _, _ => by unfold setAll; rfl
  | j :: is, w :: vs, σ, h => by
    have h1 : i ≠ j := fun e => h (e ▸ List.mem_cons_self)
    have h2 : i ∉ is := fun q => h (List.mem_cons_of_mem _ q)
    show setAll ((σ.set i (some v)).set j (some w)) is vs = (setAll (σ.set j (some w)) is vs).set i (some v)
    rw [List.set_comm _ _ h1, setAll_set h2]
theorem setAll_snoc {i : Nat} {v : V} : ∀ {is : List Nat} {vs : List V} {σ : L2.St}, is.length = vs.length → setAll σ (is ++ [i]) (vs ++ [v]) = (setAll σ is vs).set i (some v)
  | [], [], _, _ => by unfold setAll; rfl
  | [], _ :: _, _, h => by cases h
  | _ :: _, [], _, h => by cases h
  | j :: is, w :: vs, σ, h => by
    show setAll (σ.set j (some w)) (is ++ [i]) (vs ++ [v]) = (setAll (σ.set j (some w)) is vs).set i (some v)
    exact setAll_snoc (by simpa using h)
theorem setAll_rev : ∀ {is : List Nat} {vs : List V} {σ : L2.St}, is.Nodup → is.length = vs.length → setAll σ is.reverse vs.reverse = setAll σ is vs
  | [], [], _, _, _ => rfl
  | [], _ :: _, _, _, h => by cases h
  | _ :: _, [], _, _, h => by cases h
  | i :: is, v :: vs, σ, nd, h => by
    rw [List.nodup_cons] at nd
    rw [List.reverse_cons, List.reverse_cons, setAll_snoc (by simpa using h), setAll_rev nd.2 (by simpa using h)]
    show _ = setAll (σ.set i (some v)) is vs
    rw [setAll_set nd.1]
def nmsOf : Ags → Option (List Nat)
  | .nil => some []
  | .cons (.nm i) gs => (nmsOf gs).map (i :: ·)
  | .cons (.tp _) _ => none
theorem bind_nms {K : Wr} {G : Hp} {ι : List Addr} {h : MH} : ∀ {gs : Ags} {is : List Nat} {xs : List PV} {ρ ρ' : Env'}, nmsOf gs = some is → bindGs gs xs ρ h = some ρ' → xs.length = is.length ∧ ∀ {σ : L2.St} {vs : List V}, SR K G ι ρ σ → RVs K G ι xs vs → SR K G ι ρ' (setAll σ is vs)
  | .nil, is, xs, ρ, ρ', e, b => by
    simp only [nmsOf, Option.some.injEq] at e
    subst e
    cases xs with
    | cons _ _ => simp [bindGs] at b
    | nil =>
      simp only [bindGs, Option.some.injEq] at b
      subst b
      refine ⟨rfl, fun S r => ?_⟩
      rw [r.nil_inv]
      exact S
  | .cons (.tp _) _, is, xs, ρ, ρ', e, b => by cases e
  | .cons (.nm i) gs, is, xs, ρ, ρ', e, b => by
    unfold nmsOf at e
    cases e1 : nmsOf gs with
    | none => rw [e1] at e; cases e
    | some js =>
      rw [e1] at e
      cases e
      cases xs with
      | nil => simp [bindGs] at b
      | cons x xs =>
        unfold bindGs at b
        split at b
        · rename_i ρ1 e2
          unfold bindG at e2
          split at e2
          · cases e2
            obtain ⟨q1, q2⟩ := bind_nms (K := K) (G := G) (ι := ι) e1 b
            refine ⟨by rw [List.length_cons, List.length_cons, q1], fun {σ vs} S r => ?_⟩
            obtain ⟨v, ws, rfl, r1, r2⟩ := r.cons_inv
            exact q2 (S.set r1) r2
          · cases e2
        · cases b
section
variable {X : Cx} {pins : List (Addr × Obj)} {σ : L2.St} {H : Hp} {s : Shared}
theorem store_all {Q : Unit → Shared → Prop} (hN : X.N.Nodup) : ∀ {ns : List Str} {is : List Nat} {vs : List V} {us : List Value} {σ : L2.St} {s : Shared}, Inv X pins σ H s → is.map (X.N[·]?) = ns.map some → (∀ n ∈ ns, X.env.scope.names.lookup n = some .local) → Vals vs us → vs.length = is.length →
    (∀ s', Inv X pins (setAll σ is vs) H s' → Q () s') → wpAny (model X.prog X.w) X.A (assignInOrder (ns.map fun n => bindName X.env n) us) Q X.xe s
  | [], [], vs, us, σ, s, I, _, _, r, hl, h => by
    cases vs with
    | cons _ _ => cases hl
    | nil =>
      cases r
      exact assignInOrder_nil (h s I)
  | [], _ :: _, _, _, _, _, _, e, _, _, _, _ => by cases e
  | _ :: _, [], _, _, _, _, _, e, _, _, _, _ => by cases e
  | n :: ns, i :: is, vs, us, σ, s, I, e, hl, r, hlen, h => by
    rw [List.map_cons, List.map_cons, List.cons.injEq] at e
    cases vs with
    | nil => cases hlen
    | cons v vs =>
      cases r with
      | cons r rr =>
        have hy := hl n List.mem_cons_self
        refine assignInOrder_cons (wpAny_bindName (store_ok I hN e.1 (.inl hy) r (fun s2 I2 => ?_) (.inr hy)))
        exact store_all hN I2 e.2 (fun m hm => hl m (List.mem_cons_of_mem _ hm)) rr (by simpa using hlen) h
def tSwap (K : PySem.W.Frag) (is : List Nat) (te : TE) : TS := fun D σ H => te σ H fun x H1 => ∃ a vs, x = .ref a ∧ SqT K H1 a vs ∧ vs.length = is.length ∧ D.nx (setAll σ is vs) H1
theorem ps_swap {ts : List Expr} {e : Expr} {k : Nat} {pt pos : Pos} {ns : List Str} {is : List Nat} {te : TE} (hc : X.calm = true) (hN : X.N.Nodup) (he : PE X e te) (hw : swappedStores [.Tuple ts k pt] e X.env = pure (some ns)) (hs : swapsWithSole [.Tuple ts k pt] e pos.line X.env = pure false)
    (hi : is.map (X.N[·]?) = ns.map some) (hl : ∀ n ∈ ns, X.env.scope.names.lookup n = some .local) (nd : is.Nodup) : PS X (.Assign [.Tuple ts k pt] e pos) (tSwap X.K is te) := by
  refine ⟨fun pins s σ H D I h => ?_⟩
  rw [exec_Assign_arm]
  refine wpAny_bind (wpAny_standAt ?_)
  rw [hs]
  refine wpAny_bind (wpAny_pure ?_)
  rw [if_neg (by decide)]
  refine wpAny_bind (thn (he.run pins s σ H _ I h) fun u s1 ⟨x, H1, I1, r1, a, vs, ex, hq, hlen, q⟩ => ?_)
  subst ex
  cases r1
  obtain ⟨its, rv, ht, hz⟩ := I1.tuple hq
  rw [hw]
  refine wpAny_bind (wpAny_pure ?_)
  have hnl : ns.length = is.length := by
    have := congrArg List.length hi
    simpa using this.symm
  have hsz : ns.length = its.toArray.size := by rw [List.size_toArray, ← rv.length, hlen, hnl]
  show wpAny (model X.prog X.w) X.A (do rule "assign.swapped-stores"; let items ← unpackItems (.ref a) ns.length none; assignInOrder (ns.reverse.map fun n => bindName X.env n) items.reverse; pure Flow.next) _ _ _
  rw [hsz]
  refine wpAny_bind (wpAny_rule (wpAny_bind (unpackItems_tuple (items := its.toArray) (I1.ok.hd hc) ht fun h' hx' => ?_)))
  have I2 := I1.kept (h' := h') (t' := s1.toks) fun b o e => hx' b o (Nat.ne_of_lt (Heap.lt_size e)) e
  refine wpAny_bind (store_all hN (ns := ns.reverse) (is := is.reverse) (vs := vs.reverse) I2 (by rw [List.map_reverse, List.map_reverse, hi]) (fun n hn => hl n (List.mem_reverse.mp hn)) ?_ (by rw [List.length_reverse, List.length_reverse, hlen]) fun s3 I3 => wpAny_pure ?_)
  · have : ∀ {vs : List V} {us : List Value}, Vals vs us → Vals vs.reverse us.reverse := by
      intro vs us r
      induction r with
      | nil => exact .nil
      | cons r _ ih =>
        rw [List.reverse_cons, List.reverse_cons]
        exact ih.append (.cons r .nil)
    simpa using this rv
  · rw [setAll_rev nd hlen.symm] at I3
    exact ⟨_, H1, I3, q⟩
end
/-- how the stores of a written pair go -/
def isStarred : Expr → Bool
  | .Starred _ _ => true
  | _ => false
def nameOn (sc : Scope) (line : Nat) : Expr → Option Str
  | .Name id pos => if sc.names.lookup id == some .local && pos.line == line then some id else none
  | _ => none
def swK (sc : Scope) (ts vs : List Expr) : Option (Option (List Str)) :=
  if (!(ts.length == 2 || ts.length == 3) || vs.length != ts.length) = true then some none
  else if vs.any isStarred = true then some none
  else
    let names := ts.filterMap (nameOn sc ((ts.head?.map (·.pos.line)).getD 0))
    if (names.length != ts.length || names.eraseDups.length != names.length) = true then some none
    else if vs.all (foldedForSure 8) = true then some none
    else if vs.all (constantsAlone 8) = true then none
    else some (some names)
theorem swK_ok {ts vs : List Expr} {k k2 : Nat} {p p2 : Pos} {env : Env} {r : Option (List Str)} (hk : env.scope.kind = .function) (h : swK env.scope ts vs = some r) : swappedStores [.Tuple ts k p] (.Tuple vs k2 p2) env = pure r := by
  have hb : (env.blockKind != .function) = false := by unfold Env.blockKind; rw [hk]; rfl
  have e1 : (vs.any fun | .Starred .. => true | _ => false) = vs.any isStarred := rfl
  unfold swappedStores
  unfold swK at h
  dsimp only
  simp only [hb, Bool.or_false]
  split at h
  · rename_i c
    cases h
    rw [if_pos c]
  · rename_i c
    rw [if_neg c]
    split at h
    · rename_i c2
      cases h
      rw [if_pos (by exact c2)]
    · rename_i c2
      rw [if_neg (by exact c2)]
      dsimp only at h
      split at h
      · rename_i c3
        cases h
        rw [if_pos (by exact c3)]
      · rename_i c3
        rw [if_neg (by exact c3)]
        split at h
        · rename_i c4
          cases h
          rw [if_pos c4]
        · rename_i c4
          rw [if_neg c4]
          split at h
          · cases h
          · rename_i c5
            cases h
            rw [if_neg c5]
            rfl
def isTup : Expr → Bool
  | .Tuple _ _ _ => true
  | _ => false
theorem swN_ok {t : Expr} {e : Expr} {env : Env} (h : isTup e = false) : swappedStores [t] e env = pure none := by
  cases e <;> first | cases h | skip
  all_goals cases t <;> rfl
theorem swS_ok {o i : Expr} {p : Pos} {e : Expr} {env : Env} : swappedStores [.Subscript o i p] e env = pure none := by
  cases e <;> rfl

/-! ### raise -/
/-- what C's __init__ does -/
def spInit (K : PySem.W.Frag) : Sp := fun vs H Q _ => ∃ (a C : Addr) (y : V), vs = [.ref a, y] ∧ OexC K C ∧ PySem.W.findIn K (.ref C) "value" = some none ∧ H a = some (exo a C none) ∧
  ∀ dx, H dx = none → dx ≠ a → Q .non (upd (upd H dx (exd dx [(("value" : Str), y)])) a (exo a C (some dx)))
theorem passN {X : Cx} : Passes (L2.CX X.prog X.w) X (fun _ _ _ => False) := fun _ _ _ _ _ _ _ h => by
  obtain ⟨_, _, _, _, _, _, _, _, _, _, _, _, z⟩ := h
  exact z.elim
/-- a class that may be raised -/
def RaisK (X : Cx) (c : Str) : Prop := ∃ (C fI : Addr) (k : Nat) (fd : FuncData), X.mg c = some (.ref C) ∧ OexC X.K C ∧ PySem.W.findIn X.K (.ref C) "value" = some none ∧ PySem.W.findIn X.K (.ref C) "__init__" = some (some (.ref fI)) ∧ PySem.W.typeIn X.K (.ref fI) = some (.type "function") ∧
  FnOk X.prog X.w X.K X.mg X.base (L2.CX X.prog X.w) k fI fd ["self", "value"] (spInit X.K) ∧ Room (k + 1) X.A ∧ Binds X.K fd ["self", "value"] []
theorem me_raise {X : Cx} {exc : List Str} {W : WX} {c : Str} {a : Expr} {p p2 pos : Pos} {r : Env' → MH → Res PV} (hc : X.calm = true) (tk : Takes X W) (hx : c ∈ exc) (hR : RaisK X c) (hg : Gl X c) (hdb : (c == ("__debug__" : Str)) = false) (ha : PE X a (tE exc (kx X) W r)) (hst : starEach [a] X.env = [(false, eval a X.env)]) :
    PS X (.Raise (some (.Call (.Name c p) [a] [] p2)) none pos) (tS exc (kx X) W fun ρ h => (r ρ h).out ρ fun x h => .exn c x ρ h) := by
  obtain ⟨C, fI, k, fd, h1, h2, h3, h4, h5, h6, h7, h8⟩ := hR
  refine (ps_raise hc tk (pmk_oex (dvs := []) (ds := []) h2 h4 h5 h6 h7 h8 .nil passN hg h1 (pa_cons ha pa_nil (by rw [hst]; rfl)) hdb (by rw [hst]; rfl) rfl)).weak fun D σ H q => ?_
  obtain ⟨Z, G, ι, h, ρ, R, S, p⟩ := q
  refine ⟨Z, G, ι, h, ρ, R, S, p.out S fun x h1' G1 ι1 H1 vx n1 rx p1 => ?_⟩
  refine ⟨by simp, fun a0 hn0 => ?_⟩
  refine ⟨a0, C, vx, rfl, h2, h3, upd_same, fun dx hdx hne => ⟨rfl, dx, [(("value" : Str), vx)], upd_same, ?_, ?_, ?_⟩⟩
  · rw [upd_ne hne, upd_same]
  · rw [upd_ne hne] at hdx; exact hdx
  · rw [upd_ne hne] at hdx
    have e : upd (del (upd (upd (upd H1 a0 (exo a0 C none)) dx (exd dx [(("value" : Str), vx)])) a0 (exo a0 C (some dx))) a0) dx (.xd [(("value" : Str), vx)]) = upd H1 dx (.xd [(("value" : Str), vx)]) := by
      funext b
      by_cases hb : b = dx
      · rw [hb, upd_same, upd_same]
      · rw [upd_ne hb, upd_ne hb]
        by_cases hb2 : b = a0
        · rw [hb2, del_same, hn0]
        · rw [del_ne hb2, upd_ne hb2, upd_ne hb, upd_ne hb2]
    rw [e]
    have n2 : Nx (kx X) Z G1 ι1 H1 (upd G1 dx (.xd [(("value" : Str), vx)])) ι1 h1' (upd H1 dx (.xd [(("value" : Str), vx)])) :=
      ⟨same_upd (n1.hr.gnone hdx), Pre.refl _, n1.hr.laid hdx, fun z hz => upd_ne fun e => n1.hr.freshZ hdx (e ▸ hz)⟩
    exact p1.2 _ _ _ σ C dx vx n2 (S.mono (n1.same.trans n2.same) (n1.pre.trans n2.pre)) h1 upd_same (rx.mono n2.same n2.pre)
end Mx


set_option Elab.async false
set_option linter.all false
set_option maxRecDepth 100000
set_option maxHeartbeats 8000000
/-! What the checker takes runs as the small language says: statements. -/
namespace Mx
open PySem PySem.Spec PyProof.Rows L2

abbrev Lk.at (L : Lk) (hot : Bool) : Lk := { L with hot := hot }
section
variable (L : Lk) (N : List Str)
/-- how a written tuple is stored -/
def swOk (sc : Scope) (gs : Ags) (ts : List Expr) : Expr → Bool
  | .Tuple vs _ _ => match swK sc ts vs with
    | some none => true
    | some (some ns) => match nmsOf gs with
      | some is => decide (is.map (N[·]?) = ns.map some) && ns.all (onlyLocB sc) && decide is.Nodup
      | none => false
    | none => false
  | _ => true
def hdName (sc : Scope) : Option Nat → Option Str → Bool
  | none, none => true
  | some i, some y => decide (N[i]? = some y) && onlyLocB sc y
  | _, _ => false
mutual
def mS (sc : Scope) (hot : Bool) : As → Stmt → Bool
  | .ex e, .Expr x _ => mE (L.at hot) N sc e x && notComp x
  | .set (.nm i) e, .Assign [.Name x _] v _ => decide (N[i]? = some x) && locB sc x && mE (L.at hot) N sc e v
  | .set (.tp gs) e, .Assign [.Tuple ts _ _] v _ => !hot && mGs (L.at hot) N (fun _ => true) sc gs ts && mE (L.at hot) N sc e v && notComp v && swOk N sc gs ts v
  | .put o i e, .Assign [.Subscript ox ix _] v _ => mE (L.at hot) N sc o ox && mE (L.at hot) N sc i ix && mE (L.at hot) N sc e v
  | .ite c a b, .If x p q _ => mE (L.at hot) N sc c x && mSs sc hot a p && mSs sc hot b q
  | .whl c b, .While x p [] _ => !hot && mE (L.at hot) N sc c x && mSs sc hot b p
  | .for g it b, .For tg iter p [] _ => !hot && mG (L.at hot) N (fun _ => true) sc g tg && mI (L.at hot) N sc it iter && mSs sc hot b p
  | .ret e, .Return (some x) _ => mE (L.at hot) N sc e x
  | .retN, .Return none _ => true
  | .rais c e false, .Raise (some (.Call (.Name x _) [a] [] _)) none _ => !hot && decide (c = x) && gloB sc x && L.exc.contains c && mE (L.at hot) N sc e a
  | .try b hs, .Try body (h :: hds) [] [] _ => !hot && mSs sc hot b body && mHs sc hs (h :: hds)
  | .brk, .Break _ => true
  | .cnt, .Continue _ => true
  | .pas, .Pass _ => true
  | _, _ => false
def mSs (sc : Scope) (hot : Bool) : Ass → List Stmt → Bool
  | .nil, [] => true
  | .cons s ss, x :: xs => mS sc hot s x && mSs sc hot ss xs
  | _, _ => false
def mHs (sc : Scope) : Ahs → List ExceptHandler → Bool
  | .nil, [] => true
  | .cons t n b hs, .ExceptHandler (some (.Name x _)) nm (st :: suite) _ :: hds => decide (t = x) && gloB sc x && L.exc.contains t && hdName N sc n nm && mSs sc true b (st :: suite) && mHs sc hs hds
  | _, _ => false
end
end
/-- what holds of a def's context -/
structure Cs (L : Lk) (P : Pg) (cl : Calls) (W : WX) (X : Cx) : Prop where
  g : Cg L P cl W X
  kind : X.env.scope.kind = .function
  fn : ∀ x, X.fn x = true
  po : L.hot = false → PassesOwn (model X.prog X.w) X.A X.env X.xe
  stk : L.hot = false → X.stack = X.env :: X.outer
  frm : X.env.frame = some X.env.locals
  rs : L.hot = false → ∀ c ∈ L.exc, RaisK X c ∧ c ∈ P.exc
  hd : ∀ t ∈ L.exc, ∃ T, X.mg t = some (.ref T) ∧ ∀ c ∈ P.exc, ∀ C, X.mg c = some (.ref C) → PySem.W.exmOne X.K (.ref C) (.ref T) = some (subT P.exc c t)
section
variable {L : Lk} {P : Pg} {cl : Calls}
theorem Cs.tr {W W' : WX} {X : Cx} (C : Cs (L.at false) P cl W X) (pn : List (Addr × Obj)) (xe : Value → Shared → Prop) (tk : Takes (X.tr pn xe) W') (po : PassesOwn (model X.prog X.w) X.A X.env xe) : Cs (L.at false) P cl W' (X.tr pn xe) :=
  ⟨⟨C.g.nd, C.g.calm, C.g.un, C.g.free, C.g.gcd, C.g.con, tk, C.g.fns, C.g.xf⟩, C.kind, C.fn, fun _ => po, C.stk, C.frm, C.rs, C.hd⟩
theorem Cs.suite {W : WX} {X : Cx} (C : Cs (L.at false) P cl W X) (a : Addr) (pn : List (Addr × Obj)) : Cs (L.at true) P cl W0 (X.suite a pn) :=
  ⟨⟨C.g.nd, fun h => (by cases h), C.g.un, C.g.free, C.g.gcd, C.g.con, takesN, fun h => (by cases h), C.g.xf⟩, C.kind, C.fn, fun h => (by cases h), fun h => (by cases h), C.frm, fun h => (by cases h), C.hd⟩
section
variable {W : WX} {X : Cx}
theorem tSet_weak {exc : List Str} {K : Wr} {i : Nat} {r : Env' → MH → Res PV} {D : Ends} {σ : L2.St} {H : Hp} (q : tS exc K W (fun ρ h => (r ρ h).out ρ fun x h => match bindG (.nm i) x ρ h with
    | some ρ' => .nx ρ' h
    | none => .stuck) D σ H) : tE exc K W r σ H (fun x H1 => gName i x σ H1 D.nx) := by
  obtain ⟨Z, G, ι, h, ρ, R, S, p⟩ := q
  refine ⟨Z, G, ι, h, ρ, R, S, p.out S fun x h1 G1 ι1 H1 vx n1 rx p1 => ?_⟩
  unfold bindG at p1
  split at p1
  · rename_i ρ' e
    split at e
    · cases e
      exact OP.nx_here p1 n1.hr ((S.mono n1.same n1.pre).set rx)
    · cases e
  · exact p1.elim
theorem sSetC {i : Nat} {a : Ae} {hot : Bool} (C : Cs (L.at hot) P cl W X) {x : Str} {v : Expr} {p pos : Pos} (hN : X.N[i]? = some x) (hl : locB X.env.scope x = true) (hm : mE (L.at hot) X.N X.env.scope a v = true) :
    PS X (.Assign [.Name x p] v pos) (tS P.exc (kx X) W fun ρ h => (ev P cl a ρ h).out ρ fun x h => match bindG (.nm i) x ρ h with
      | some ρ' => .nx ρ' h
      | none => .stuck) := by
  by_cases hs : swapsWith v (some (.Name x p)) pos.line X.env = pure false
  · exact (ps_set C.g.nd hN (loc_of hl) (sX a C.g hm).1 hs (.inl (C.fn x))).weak fun D σ H q => tSet_weak q
  · cases v <;> try (exact absurd (sw_none rfl _ _ _) hs)
    · rename_i elt gens scope cp
      have e := sw_comp (elt := elt) (gs := gens) (scope := scope) (p := cp) (pos := p) (t := x) (l := pos.line) C.kind
      cases hb : (X.env.scope.names.lookup x == some .local && p.line == cp.line && !(scope.names.any fun (n, k) => n == x && (k == .local || k == .cell))) with
      | false => rw [hb] at e; exact absurd e hs
      | true =>
        rw [hb] at e
        have hyl : X.env.scope.names.lookup x = some .local := by
          simp only [Bool.and_eq_true, beq_iff_eq] at hb
          exact hb.1.1
        cases a <;> try (cases hm; done)
        rename_i r ee g it ifs own
        rcases gens with _ | ⟨⟨tg, iter, fs, asy⟩, _ | _⟩
        · cases hm
        · by_cases hz : asy = 0
          · subst hz
            simp only [mE, Bool.and_eq_true, decide_eq_true_eq, Bool.not_eq_true'] at hm
            obtain ⟨⟨⟨⟨⟨⟨h0, h1⟩, h2⟩, h3⟩, h4⟩, h5⟩, h6⟩ := hm
            have hc := C.g.calm h0
            refine (ps_setLc (wi := tI P.exc (kx X) W (evi P cl it)) (g := tG (kx X) g) (tt := tT P.exc (kx X) W0 (evIfs P cl ifs)) (te := tE P.exc (kx X) W0 (ev P cl ee)) hc C.g.nd hN hyl e (sI (tg := tg) it C.g h3).1 (blkOk_by h1) (fun s H C' cls fp => ?_) (fun s H C' cls fp => ?_) (fun s H C' cls fp => ?_) (sI (tg := tg) it C.g h3).2).weak fun D σ H q => ?_
            · exact sG (X := X.blk s H scope (compEnvC scope cls C' X.env) fp) hc C.g.nd (fun x hx => hx) h4
            · exact sIfs ifs (C.g.blk s H scope (compEnvC scope cls C' X.env) fp) h5
            · exact (sX ee (C.g.blk s H scope (compEnvC scope cls C' X.env) fp) h6).1
            · exact tLc_weak h2 (tSet_weak q)
          · exact absurd hm (by simp [mE, hz])
        · exact absurd hm (by simp [mE])
    · cases a <;> cases hm
    · cases a <;> cases hm
theorem sSetT {gs : Ags} {a : Ae} (C : Cs (L.at false) P cl W X) {ts : List Expr} {v : Expr} {k : Nat} {p pos : Pos} (h1 : mGs (L.at false) X.N (fun _ => true) X.env.scope gs ts = true) (hm : mE (L.at false) X.N X.env.scope a v = true) (h3 : notComp v = true) (h4 : swOk X.N X.env.scope gs ts v = true) :
    PS X (.Assign [.Tuple ts k p] v pos) (tS P.exc (kx X) W fun ρ h => (ev P cl a ρ h).out ρ fun x h => match bindG (.tp gs) x ρ h with
      | some ρ' => .nx ρ' h
      | none => .stuck) := by
  have he := (sX a C.g hm).1
  have hsw : swapsWithSole [.Tuple ts k p] v pos.line X.env = pure false := (show swapsWith v (some (.Tuple ts k p)) pos.line X.env = pure false from sw_none h3 _ _ _)
  have plain : swappedStores [.Tuple ts k p] v X.env = pure none → PS X (.Assign [.Tuple ts k p] v pos) (tS P.exc (kx X) W fun ρ h => (ev P cl a ρ h).out ρ fun x h => match bindG (.tp gs) x ρ h with
      | some ρ' => .nx ρ' h
      | none => .stuck) := fun hw => by
    have hg : PG X (.Tuple ts k p) (tG (kx X) (.tp gs)) := sG (C.g.calm rfl) C.g.nd (fun x _ => C.fn x) (g := .tp gs) (L := L.at false) (show mG (L.at false) X.N (fun _ => true) X.env.scope (.tp gs) (.Tuple ts k p) = true from h1)
    refine (ps_asg he hg hsw hw).weak fun D σ H q => ?_
    obtain ⟨Z, G, ι, h, ρ, R, S, p⟩ := q
    refine ⟨Z, G, ι, h, ρ, R, S, p.out S fun x h1 G1 ι1 H1 vx n1 rx p1 => ?_⟩
    split at p1
    · rename_i ρ' e
      exact ⟨Z, G1, ι1, h1, ρ, x, ρ', n1.hr, S.mono n1.same n1.pre, rx, e, fun σ' S' _ _ => OP.nx_here p1 n1.hr S'⟩
    · exact p1.elim
  by_cases hv : isTup v = false
  · exact plain (swN_ok hv)
  · cases v <;> try (exact absurd rfl hv)
    rename_i vs k2 p2
    simp only [swOk] at h4
    split at h4
    · rename_i e
      exact plain (swK_ok C.kind e)
    · rename_i ns e
      split at h4
      · rename_i is ei
        simp only [Bool.and_eq_true, decide_eq_true_eq, List.all_eq_true] at h4
        obtain ⟨⟨q1, q2⟩, q3⟩ := h4
        refine (ps_swap (C.g.calm rfl) C.g.nd he (swK_ok C.kind e) hsw q1 (fun n hn => onlyLoc_of (q2 n hn)) q3).weak fun D σ H q => ?_
        obtain ⟨Z, G, ι, h, ρ, R, S, p⟩ := q
        refine ⟨Z, G, ι, h, ρ, R, S, p.out S fun x h1 G1 ι1 H1 vx n1 rx p1 => ?_⟩
        split at p1
        · rename_i ρ' eb
          unfold bindG at eb
          split at eb
          · rename_i ys
            obtain ⟨a, vv, rfl, hs, rvs⟩ := rx.tup_inv
            obtain ⟨b1, b2⟩ := bind_nms (K := kx X) (G := G1) (ι := ι1) ei eb
            exact ⟨a, vv, rfl, Same.seqT n1.hr.sub hs, by rw [← rvs.length, b1], OP.nx_here p1 n1.hr (b2 (S.mono n1.same n1.pre) rvs)⟩
          · cases eb
        · exact p1.elim
      · cases h4
    · cases h4
theorem sPut {o i e : Ae} {hot : Bool} (C : Cs (L.at hot) P cl W X) {ox ix v : Expr} {p pos : Pos} (h1 : mE (L.at hot) X.N X.env.scope o ox = true) (h2 : mE (L.at hot) X.N X.env.scope i ix = true) (h3 : mE (L.at hot) X.N X.env.scope e v = true) :
    PS X (.Assign [.Subscript ox ix p] v pos) (tS P.exc (kx X) W fun ρ h => (ev P cl e ρ h).out ρ fun x h => (ev P cl o ρ h).out ρ fun a h => (ev P cl i ρ h).out ρ fun k h => match putop a k x h with
      | some h => .nx ρ h
      | none => .stuck) := by
  have hslice := ok_slice (mE_ok h2)
  refine (ps_asg (sX e C.g h3).1 (pg_sub (sX o C.g h1).1 (sX i C.g h2).1 set_list (fun v => by cases ix <;> first | rfl | cases hslice)) (show swapsWith v (some (.Subscript ox ix p)) pos.line X.env = pure false from sw_sub) swS_ok).weak fun D σ H q => ?_
  obtain ⟨Z, G, ι, h, ρ, R, S, p⟩ := q
  refine ⟨Z, G, ι, h, ρ, R, S, p.out S fun x h1 G1 ι1 H1 vx n1 rx p1 => ?_⟩
  have S1 := S.mono n1.same n1.pre
  refine ⟨Z, G1, ι1, h1, ρ, n1.hr, S1, p1.out S1 fun a h2 G2 ι2 H2 va n2 ra p2 => ?_⟩
  have S2 := S1.mono n2.same n2.pre
  refine ⟨Z, G2, ι2, h2, ρ, n2.hr, S2, p2.out S2 fun k h3 G3 ι3 H3 vk n3 rk p3 => ?_⟩
  split at p3
  · rename_i h' eh
    unfold putop at eh
    split at eh
    · rename_i n kk
      split at eh
      · rename_i xs ex
        split at eh
        · rename_i j ej
          cases eh
          obtain ⟨ad, vs, rfl, hn, hH, rvs⟩ := ref_lst n3.hr (ra.mono n3.same n3.pre) ex
          refine ⟨ad, vs, kk, j, rfl, rk.int_inv, hH, by rw [← rvs.length]; exact ej, ?_⟩
          refine put_lst (Q := fun H' => D.nx σ H') n3.hr hn (rvs.set (rx.mono (n2.same.trans n3.same) (n2.pre.trans n3.pre)) j) fun G' ι' H' n4 => ?_
          exact p3 G' ι' H' σ n4 (S2.mono (n3.same.trans n4.same) (n3.pre.trans n4.pre))
        · cases eh
      · cases eh
    · cases eh
  · exact p3.elim
theorem tst_eq (c : Ae) : tst P cl c = truR (ev P cl c) := rfl
end
mutual
theorem sS : ∀ (a : As) {hot : Bool} {W : WX} {X : Cx} (C : Cs (L.at hot) P cl W X) {st : Stmt}, mS L X.N X.env.scope hot a st = true → PS X st (tS P.exc (kx X) W (run1 P cl a))
  | .ex e, hot, W, X, C, st, hm => by
    cases st <;> try (cases hm; done)
    simp only [mS, Bool.and_eq_true] at hm
    refine (ps_expr (sX e C.g hm.1).1 (sw_none hm.2 _ _ _)).weak fun D σ H q => ?_
    obtain ⟨Z, G, ι, h, ρ, R, S, p⟩ := q
    unfold run1 at p
    exact ⟨Z, G, ι, h, ρ, R, S, p.out S fun x h1 G1 ι1 H1 vx n1 rx p1 => OP.nx_here p1 n1.hr (S.mono n1.same n1.pre)⟩
  | .set g e, hot, W, X, C, st, hm => by
    cases st <;> try (cases g <;> cases hm; done)
    rename_i tgs v pos
    rcases tgs with _ | ⟨tg, _ | _⟩ <;> try (cases g <;> cases hm; done)
    · cases g with
      | nm i =>
        cases tg <;> try (cases hm; done)
        simp only [mS, Bool.and_eq_true, decide_eq_true_eq] at hm
        exact sSetC C hm.1.1 hm.1.2 hm.2
      | tp gs =>
        cases tg <;> try (cases hm; done)
        simp only [mS, Bool.and_eq_true, Bool.not_eq_true'] at hm
        obtain ⟨⟨⟨⟨rfl, h1⟩, h2⟩, h3⟩, h4⟩ := hm
        exact sSetT C h1 h2 h3 h4
    · cases g <;> (cases tg <;> cases hm)
  | .put o i e, hot, W, X, C, st, hm => by
    cases st <;> try (cases hm; done)
    rename_i tgs v pos
    rcases tgs with _ | ⟨tg, _ | _⟩ <;> try (cases hm; done)
    · cases tg <;> try (cases hm; done)
      simp only [mS, Bool.and_eq_true] at hm
      exact sPut C hm.1.1 hm.1.2 hm.2
    · cases tg <;> cases hm
  | .ite c a b, hot, W, X, C, st, hm => by
    cases st <;> try (cases hm; done)
    simp only [mS, Bool.and_eq_true] at hm
    refine (ps_if (sX c C.g hm.1.1).2 (sSs a C hm.1.2) (sSs b C hm.2)).weak fun D σ H q => ?_
    obtain ⟨Z, G, ι, h, ρ, R, S, p⟩ := q
    unfold run1 at p
    refine ⟨Z, G, ι, h, ρ, R, S, p.out S fun t h1 G1 ι1 H1 t' n1 et p1 => ?_⟩
    cases et
    cases t with
    | true => exact ⟨Z, G1, ι1, h1, ρ, n1.hr, S.mono n1.same n1.pre, p1⟩
    | false => exact ⟨Z, G1, ι1, h1, ρ, n1.hr, S.mono n1.same n1.pre, p1⟩
  | .whl c b, hot, W, X, C, st, hm => by
    cases st <;> try (cases hm; done)
    rename_i x bd els pos
    cases els with
    | cons _ _ => cases hm
    | nil =>
      simp only [mS, Bool.and_eq_true, Bool.not_eq_true'] at hm
      obtain ⟨⟨rfl, h1⟩, h2⟩ := hm
      refine (ps_while (C.po rfl) (sX c C.g h1).2 (sSs b C h2)).weak fun D σ H q => ?_
      obtain ⟨Z, G, ι, h, ρ, R, S, p⟩ := q
      unfold run1 whlE at p
      split at p
      · rename_i ex
        refine ⟨fun m σ H' => ∃ G2 ι2 h2 ρ2, HR (kx X) Z G2 ι2 h2 H' ∧ SR (kx X) G2 ι2 ρ2 σ ∧ OP P.exc (kx X) W Z G2 ι2 H' (whlN (tst P cl c) (runs P cl b) m ρ2 h2) D, ⟨_, G, ι, h, ρ, R, S, p⟩, ?_⟩
        rintro m σ H ⟨G2, ι2, h2, ρ2, R2, S2, p2⟩
        cases m with
        | zero => exact p2.elim
        | succ m =>
          unfold whlN at p2
          refine ⟨Z, G2, ι2, h2, ρ2, R2, S2, p2.out S2 fun t h3 G3 ι3 H3 t' n3 et p3 => ?_⟩
          cases et
          have S3 := S2.mono n3.same n3.pre
          cases t with
          | false => exact OP.nx_here p3 n3.hr S3
          | true =>
            refine ⟨fun σ' H' => ∃ G2 ι2 h2 ρ2, HR (kx X) Z G2 ι2 h2 H' ∧ SR (kx X) G2 ι2 ρ2 σ' ∧ OP P.exc (kx X) W Z G2 ι2 H' (whlN (tst P cl c) (runs P cl b) m ρ2 h2) D, fun σ' H' w => ⟨m, Nat.lt_succ_self _, w⟩, Z, G3, ι3, h3, ρ2, n3.hr, S3, ?_⟩
            exact OP.turn (o := runs P cl b ρ2 h3) p3 fun ρ4 h4 G4 ι4 H4 σ4 n4 S4 p4 => ⟨G4, ι4, h4, ρ4, n4.hr, S4, p4⟩
      · exact p.elim
  | .for g it b, hot, W, X, C, st, hm => by
    cases st <;> try (cases hm; done)
    rename_i tg iter bd els pos
    cases els with
    | cons _ _ => cases hm
    | nil =>
      simp only [mS, Bool.and_eq_true, Bool.not_eq_true'] at hm
      obtain ⟨⟨⟨rfl, h1⟩, h2⟩, h3⟩ := hm
      have hc := C.g.calm rfl
      have hg : PG X tg (tG (kx X) g) := sG hc C.g.nd (fun x _ => C.fn x) h1
      refine (ps_for (C.po rfl) hc (sI (tg := tg) it C.g h2).1 hg (sSs b C h3) (sI (tg := tg) it C.g h2).2).weak fun D σ H q => ?_
      obtain ⟨Z, G, ι, h, ρ, R, S, p⟩ := q
      unfold run1 at p
      refine ⟨Z, G, ι, h, ρ, R, S, p.out S fun s h1 G1 ι1 H1 J n1 hJ p1 => ?_⟩
      generalize hbody : (fun (x : PV) (ρ : Env') (h : MH) => match bindG g x ρ h with
        | some ρ' => runs P cl b ρ' h
        | none => Out.stuck) = body at p1
      refine ⟨fun i m σ H' => m = s.2.length - i ∧ i ≤ s.2.length ∧ ∃ G2 ι2 h2 ρ2, Same G1 G2 ∧ Pre ι1 ι2 ∧ HR (kx X) Z G2 ι2 h2 H' ∧ SR (kx X) G2 ι2 ρ2 σ ∧ OP P.exc (kx X) W Z G2 ι2 H' (forL body s.1 (s.2.drop i) ρ2 h2) D,
        ⟨_, rfl, Nat.zero_le _, G1, ι1, h1, ρ, Same.refl _, Pre.refl _, n1.hr, S.mono n1.same n1.pre, p1⟩, ?_⟩
      rintro i m σ H2 ⟨rfl, hi, G2, ι2, h2, ρ2, s2, pr2, R2, S2, p2⟩
      by_cases hlt : i < s.2.length
      · have ex : s.2[i]? = some s.2[i] := List.getElem?_eq_getElem hlt
        rw [List.drop_eq_getElem_cons hlt] at p2
        unfold forL at p2
        split at p2
        · rename_i hchk
          refine .inr ⟨hJ.go Z G2 ι2 h2 H2 i s2 pr2 R2 hchk hlt, fun σ' H' => ∃ G2 ι2 h2 ρ2, Same G1 G2 ∧ Pre ι1 ι2 ∧ HR (kx X) Z G2 ι2 h2 H' ∧ SR (kx X) G2 ι2 ρ2 σ' ∧ OP P.exc (kx X) W Z G2 ι2 H' (forL body s.1 (s.2.drop (i + 1)) ρ2 h2) D,
            fun σ' H' w => ⟨s.2.length - (i + 1), by omega, rfl, hlt, w⟩, fun xv H3 hy => ?_⟩
          obtain ⟨G3, ι3, n3, rx⟩ := hJ.yld Z G2 ι2 h2 H2 i xv H3 _ s2 pr2 R2 hchk ex hy
          have S3 := S2.mono n3.same n3.pre
          have p3 := p2.later n3
          rw [← hbody] at p3
          dsimp only at p3
          cases hb : bindG g s.2[i] ρ2 h2 with
          | none => rw [hb] at p3; exact p3.elim
          | some ρ' =>
            rw [hb] at p3
            refine ⟨Z, G3, ι3, h2, ρ2, s.2[i], ρ', n3.hr, S3, rx, hb, fun σ' S' _ _ => ⟨Z, G3, ι3, h2, ρ', n3.hr, S', ?_⟩⟩
            rw [hbody] at p3
            exact OP.turn (o := runs P cl b ρ' h2) p3 fun ρ4 h4 G4 ι4 H4 σ4 n4 S4 p4 => ⟨G4, ι4, h4, ρ4, s2.trans (n3.same.trans n4.same), pr2.trans (n3.pre.trans n4.pre), n4.hr, S4, p4⟩
        · exact p2.elim
      · have e : s.2.drop i = [] := List.drop_eq_nil_of_le (by omega)
        rw [e] at p2
        unfold forL at p2
        split at p2
        · rename_i hchk
          exact .inl ⟨hJ.stop Z G2 ι2 h2 H2 i s2 pr2 R2 hchk (by omega), OP.nx_here p2 R2 S2⟩
        · exact p2.elim
  | .ret e, hot, W, X, C, st, hm => by
    cases st <;> try (cases hm; done)
    rename_i x pos
    cases x with
    | none => cases hm
    | some x =>
      refine (ps_ret (sX e C.g (show mE (L.at hot) X.N X.env.scope e x = true from hm)).1).weak fun D σ H q => ?_
      obtain ⟨Z, G, ι, h, ρ, R, S, p⟩ := q
      unfold run1 at p
      exact ⟨Z, G, ι, h, ρ, R, S, p.out S fun x h1 G1 ι1 H1 vx n1 rx p1 => p1 G1 ι1 H1 vx (Nx.refl n1.hr) rx⟩
  | .retN, hot, W, X, C, st, hm => by
    cases st <;> try (cases hm; done)
    rename_i x pos
    cases x with
    | some _ => cases hm
    | none =>
      refine ps_retN.weak fun D σ H q => ?_
      obtain ⟨Z, G, ι, h, ρ, R, S, p⟩ := q
      unfold run1 at p
      exact p G ι H .non (Nx.refl R) .non
  | .rais c e kw, hot, W, X, C, st, hm => by
    cases st <;> try (cases kw <;> cases hm; done)
    rename_i x cause pos
    cases kw with
    | true => cases hm
    | false =>
      cases x with
      | none => cases hm
      | some x =>
        cases x <;> try (cases hm; done)
        rename_i fn xs kws p2
        cases fn <;> try (cases hm; done)
        rename_i nm p
        rcases xs with _ | ⟨a, _ | _⟩ <;> try (cases hm; done)
        · cases kws with
          | cons _ _ => cases hm
          | nil => cases cause with
            | some _ => cases hm
            | none =>
              simp only [mS, Bool.and_eq_true, decide_eq_true_eq, Bool.not_eq_true'] at hm
              obtain ⟨⟨⟨⟨rfl, rfl⟩, h2⟩, h3⟩, h4⟩ := hm
              obtain ⟨r1, r2⟩ := C.rs rfl _ (List.contains_iff_mem.mp h3)
              exact me_raise (C.g.calm rfl) C.g.tk r2 r1 (gl_of h2).1 (gl_of h2).2 (sX e C.g h4).1 (ok_star (mE_ok h4) [] X.env)
  | .try b hs, hot, W, X, C, st, hm => by
    cases st <;> try (cases hm; done)
    rename_i body hds els fin pos
    cases hds with
    | nil => cases hm
    | cons h hds => cases els with
      | cons _ _ => cases hm
      | nil => cases fin with
        | cons _ _ => cases hm
        | nil =>
          simp only [mS, Bool.and_eq_true, Bool.not_eq_true'] at hm
          obtain ⟨⟨rfl, h1⟩, h2⟩ := hm
          obtain ⟨l, hk, hw⟩ := sHs hs C h2
          refine (ps_try_own (Wout := W) (tb := fun W' => tS P.exc (kx X) W' (runs P cl b)) (C.stk rfl) C.frm C.g.nd C.g.tk (fun W' pn xe tk po => sSs b (C.tr pn xe tk po) h1) hk).weak fun D σ H q => ?_
          obtain ⟨Z, G, ι, h, ρ, R, S, p⟩ := q
          unfold run1 at p
          refine ⟨Z, G, ι, h, ρ, R, S, ?_⟩
          cases e : runs P cl b ρ h with
          | nx ρ' h' => rw [e] at p; exact p
          | bk ρ' h' => rw [e] at p; exact p
          | ct ρ' h' => rw [e] at p; exact p
          | rt v h' => rw [e] at p; exact p
          | stuck => rw [e] at p; exact p
          | exn c v ρ' h' =>
            rw [e] at p
            dsimp only at p
            split at p
            · rename_i hc'
              have hc : c ∈ P.exc := List.contains_iff_mem.mp hc'
              refine ⟨hc, fun G' ι' H' σ' Cc dd x n' S' hm' hd' rx => ?_⟩
              exact hw Z D c v ρ' G' ι' h' H' σ' Cc dd x hc n'.hr S' hm' hd' rx (OP.later p n')
            · exact p.elim
  | .brk, hot, W, X, C, st, hm => by
    cases st <;> try (cases hm; done)
    refine ps_break.weak fun D σ H q => ?_
    obtain ⟨Z, G, ι, h, ρ, R, S, p⟩ := q
    exact p G ι H σ (Nx.refl R) S
  | .cnt, hot, W, X, C, st, hm => by
    cases st <;> try (cases hm; done)
    refine ps_continue.weak fun D σ H q => ?_
    obtain ⟨Z, G, ι, h, ρ, R, S, p⟩ := q
    exact p G ι H σ (Nx.refl R) S
  | .pas, hot, W, X, C, st, hm => by
    cases st <;> try (cases hm; done)
    refine ps_pass.weak fun D σ H q => ?_
    obtain ⟨Z, G, ι, h, ρ, R, S, p⟩ := q
    exact p G ι H σ (Nx.refl R) S
theorem sSs : ∀ (a : Ass) {hot : Bool} {W : WX} {X : Cx} (C : Cs (L.at hot) P cl W X) {st : List Stmt}, mSs L X.N X.env.scope hot a st = true → PSs X st (tS P.exc (kx X) W (runs P cl a))
  | .nil, hot, W, X, C, st, hm => by
    cases st with
    | cons _ _ => cases hm
    | nil =>
      refine pss_nil.weak fun D σ H q => ?_
      obtain ⟨Z, G, ι, h, ρ, R, S, p⟩ := q
      unfold runs at p
      exact OP.nx_here p R S
  | .cons s ss, hot, W, X, C, st, hm => by
    cases st with
    | nil => cases hm
    | cons x xs =>
      simp only [mSs, Bool.and_eq_true] at hm
      refine (pss_cons (sS s C hm.1) (sSs ss C hm.2)).weak fun D σ H q => ?_
      obtain ⟨Z, G, ι, h, ρ, R, S, p⟩ := q
      unfold runs at p
      exact ⟨Z, G, ι, h, ρ, R, S, p.seq fun ρ1 h1 G1 ι1 H1 σ1 n1 S1 p1 => ⟨Z, G1, ι1, h1, ρ1, n1.hr, S1, p1⟩⟩
theorem sHs : ∀ (a : Ahs) {W : WX} {X : Cx} (C : Cs (L.at false) P cl W X) {hds : List ExceptHandler}, mHs L X.N X.env.scope a hds = true → ∃ l, HdsK X hds l ∧
    ∀ (Z : List Addr) (D : Ends) (c : Str) (v : PV) (ρ : Env') (G : Hp) (ι : List Addr) (h : MH) (H : Hp) (σ : L2.St) (Cc dd : Addr) (x : V), c ∈ P.exc → HR (kx X) Z G ι h H → SR (kx X) G ι ρ σ → X.mg c = some (.ref Cc) → G dd = some (.xd [(("value" : Str), x)]) → RV (kx X) G ι v x →
      OP P.exc (kx X) W Z G ι H (runH P cl a c v ρ h) D → wHds X.K W D l (.ref Cc) (some dd) σ H
  | .nil, W, X, C, hds, hm => by
    cases hds with
    | cons _ _ => cases hm
    | nil =>
      refine ⟨[], .nil, fun Z D c v ρ G ι h H σ Cc dd x hc R S hm' hd' rx p => ?_⟩
      unfold runH at p
      exact p.2 G ι H σ Cc dd x (Nx.refl R) S hm' hd' rx
  | .cons t n b hs, W, X, C, hds, hm => by
    cases hds with
    | nil => cases hm
    | cons hh hds =>
      obtain ⟨ty, nm, suite, pos⟩ := hh
      cases ty with
      | none => cases hm
      | some ty =>
        cases ty <;> try (cases hm; done)
        rename_i xn xp
        cases suite with
        | nil => cases hm
        | cons st suite =>
          simp only [mHs, Bool.and_eq_true, decide_eq_true_eq] at hm
          obtain ⟨⟨⟨⟨⟨rfl, h1⟩, h2⟩, h3⟩, h4⟩, h5⟩ := hm
          obtain ⟨l, hk, hw⟩ := sHs hs C h5
          obtain ⟨T, hT, hex⟩ := C.hd _ (List.contains_iff_mem.mp h2)
          have hn : HdN X nm n := by
            cases n with
            | none => cases nm with
              | none => exact trivial
              | some _ => cases h3
            | some i => cases nm with
              | none => cases h3
              | some y =>
                simp only [hdName, Bool.and_eq_true, decide_eq_true_eq] at h3
                exact ⟨h3.1, onlyLoc_of h3.2⟩
          refine ⟨(.ref T, n, tS P.exc (kx X) W0 (runs P cl b)) :: l, .cons ⟨(gl_of h1).1, (gl_of h1).2, .inl hT⟩ hn (fun a pn => sSs b (C.suite a pn) h4) hk, fun Z D c v ρ G ι h H σ Cc dd x hc R S hm' hd' rx p => ?_⟩
          refine ⟨subT P.exc c t, hex c hc Cc hm', fun hb => ⟨Cc, dd, rfl, rfl, fun a ha => ?_⟩, fun hb => ?_⟩
          · have n1 : Nx (kx X) Z G ι H (upd G a (ExV Cc dd a)) ι h (upd H a (ExV Cc dd a)) := ⟨same_upd (R.gnone ha), Pre.refl _, R.laid ha, fun z hz => upd_ne fun e => R.freshZ ha (e ▸ hz)⟩
            have S1 := S.mono n1.same n1.pre
            have p1 := p.later n1
            unfold runH at p1
            rw [if_pos hb] at p1
            cases n with
            | none => exact ⟨Z, _, ι, h, ρ, n1.hr, S1, p1.noxW⟩
            | some i =>
              dsimp only at p1
              split at p1
              · exact ⟨Z, _, ι, h, ρ.set i (some (.exn c v)), n1.hr, S1.set (.exn hm' upd_same (n1.same _ _ hd') (rx.mono n1.same n1.pre)), p1.gone⟩
              · exact p1.elim
          · refine hw Z D c v ρ G ι h H σ Cc dd x hc R S hm' hd' rx ?_
            unfold runH at p
            rw [if_neg (by rw [hb]; exact Bool.false_ne_true)] at p
            exact p
end
end
end Mx


set_option Elab.async false
set_option linter.all false
set_option maxRecDepth 100000
set_option maxHeartbeats 8000000
/-! Defs: what their bodies do is what they promise. -/
namespace Mx
open PySem PySem.Spec PyProof.Rows L2
section
variable {K : Wr} {Z : List Addr} {G G' : Hp} {ι ι' : List Addr} {h h' : MH} {H H' : Hp}
theorem leave_ok (R0 : HR K Z G ι h H) (n : Nx K Z G ι H G' ι' h' H') {v : PV} {x : V} (r : RV K G' ι' v x) :
    ∃ G'' ι'', Same G' G'' ∧ Nx K Z G ι H G'' ι'' (leave h v h').2 H' ∧ RV K G'' ι'' (leave h v h').1 x := by
  unfold leave
  split
  · rename_i hc
    obtain ⟨hb, ht, hl⟩ := hc
    obtain ⟨G'', s, et, R'', hg⟩ := R0.cutTo n.hr n.pre ht hl
    have cut : ∀ {v : PV} {x : V}, RV K G' ι' v x → below h.length v → RV K G'' ι v x := fun {v x} r q => by
      have := RV.cut (n := h.length) s r q
      rwa [et] at this
    refine ⟨G'', ι, s, ⟨n.same.trans s, Pre.refl _, R'', n.zz⟩, ?_⟩
    show RV K G'' ι (thaw h.length h' v) x
    cases v with
    | ref m =>
      have eth : thaw h.length h' (.ref m) = if m < h.length then .ref m else match h'[m]? with
          | some (.lst xs) => .lst xs
          | _ => .ref m := rfl
      rw [eth] at hb ⊢
      split
      · rename_i hm
        rw [if_pos hm] at hb
        exact cut r hb
      · rename_i hm
        rw [if_neg hm] at hb
        cases e : h'[m]? with
        | none =>
          rw [e] at hb
          exact cut r hb
        | some o =>
          cases o with
          | lst xs =>
            rw [e] at hb
            obtain ⟨a, vs, rfl, hn, hH, rvs⟩ := ref_lst n.hr r e
            have ha : a ∈ ι'.drop ι.length := by
              refine List.mem_of_getElem? (i := m - ι.length) ?_
              rw [List.getElem?_drop, R0.len]
              have : h.length + (m - h.length) = m := by omega
              rw [this]
              exact hn
            have rc := RVs.cut (n := h.length) s rvs hb
            rw [et] at rc
            exact .lst (.inl ((hg a ha).trans hH)) rc
          | dic _ _ =>
            rw [e] at hb
            exact cut r hb
          | ins _ _ =>
            rw [e] at hb
            exact cut r hb
    | non => exact cut r hb
    | bl _ => exact cut r hb
    | int _ => exact cut r hb
    | str _ => exact cut r hb
    | tup _ => exact cut r hb
    | lst _ => exact cut r hb
    | dic _ _ => exact cut r hb
    | exn _ _ => exact cut r hb
  · exact ⟨G', ι', Same.refl _, n, r⟩
/-- a body's end, as its caller sees it -/
theorem OP.exit {exc : List Str} {o : Out} {kp : Bool} {Q : VK} {E : XK} (R0 : HR K Z G ι h H) (p : RP exc K (rV K) Z G ι H (o.res kp h) Q E) : OP exc K (fun cls d _ H => E cls d H) Z G ι H o { nx := fun _ H' => Q .non H', rt := Q } := by
  cases kp with
  | true =>
    cases o with
    | nx ρ h' => exact fun G' ι' H' σ' n S => p G' ι' H' .non n .non
    | rt v h' => exact p
    | exn c v ρ h' => exact ⟨p.1, fun G' ι' H' σ' C dd x n S hm hd r => p.2 G' ι' H' C dd x n hm hd r⟩
    | bk ρ h' => exact p.elim
    | ct ρ h' => exact p.elim
    | stuck => exact p.elim
  | false =>
    cases o with
    | nx ρ h' =>
      intro G' ι' H' σ' n S
      obtain ⟨G'', ι'', s, n2, r2⟩ := leave_ok R0 n (.non : RV K G' ι' .non .non)
      exact p G'' ι'' H' .non n2 r2
    | rt v h' =>
      intro G' ι' H' x n r
      obtain ⟨G'', ι'', s, n2, r2⟩ := leave_ok R0 n r
      exact p G'' ι'' H' x n2 r2
    | exn c v ρ h' =>
      refine ⟨p.1, fun G' ι' H' σ' C dd x n S hm hd r => ?_⟩
      obtain ⟨G'', ι'', s, n2, r2⟩ := leave_ok R0 n r
      exact p.2 G'' ι'' H' C dd x n2 hm (s _ _ hd) r2
    | bk ρ h' => exact p.elim
    | ct ρ h' => exact p.elim
    | stuck => exact p.elim
end
theorem spF_len {exc : List Str} {K : Wr} {len : Nat} {b : List PV → MH → Res PV} {vs : List V} {H : Hp} {Q : VK} {E : XK} (h : spF exc K len b vs H Q E) : vs.length = len := by
  obtain ⟨Z, G, ι, h, as, hl, R, r, p⟩ := h
  rw [← r.length, hl]
section
variable {P : Program} {w : World} {K : PySem.W.Frag} {mg : Str → Option Value} {base : Heap}
/-- what holds at a level of calls -/
structure Cf (P : Program) (w : World) (K : PySem.W.Frag) (mg : Str → Option Value) (base : Heap) (L : Lk) (Pg : Pg) (cl : Calls) (k : Nat) : Prop where
  free : ∀ x ∈ L.fr, mg x = none
  gcd : L.gcd = true → mg "gcd" = some (.builtin "math.gcd")
  con : ∀ x ∈ L.cons, ∃ v u y, Pg.con x = some v ∧ mg x = some u ∧ RelV y u ∧ ∀ G ι, RV ⟨K, mg⟩ G ι v y
  fns : ∀ f ∈ L.fns, ∃ a fd ps b, DefK ⟨K, mg⟩ f a fd ps ∧ FnOk P w K mg base (L2.CX P w) k a fd ps (spF Pg.exc ⟨K, mg⟩ ps.length b) ∧
    ∀ xs ks ys h, cl f xs ks ys h = match argsOf ps xs ks ys with | none => .stuck | some as => b as h
  xf : ∀ c ∈ Pg.exc, ∀ C, mg c = some (.ref C) → XfC K C ∧ PySem.W.findIn K (.ref C) "value" = some none
  rs : ∀ c ∈ L.exc, c ∈ Pg.exc ∧ ∃ (C fI : Addr) (fd : FuncData), mg c = some (.ref C) ∧ OexC K C ∧ PySem.W.findIn K (.ref C) "value" = some none ∧ PySem.W.findIn K (.ref C) "__init__" = some (some (.ref fI)) ∧ PySem.W.typeIn K (.ref fI) = some (.type "function") ∧
    FnOk P w K mg base (L2.CX P w) 1 fI fd ["self", "value"] (spInit K) ∧ Binds K fd ["self", "value"] []
  hd : ∀ t ∈ L.exc, ∃ T, mg t = some (.ref T) ∧ ∀ c ∈ Pg.exc, ∀ C, mg c = some (.ref C) → PySem.W.exmOne K (.ref C) (.ref T) = some (subT Pg.exc c t)
theorem fn_level {L : Lk} {Pg : Pg} {cl : Calls} {k : Nat} {x qual : Str} {params : Arguments} {bd : List Stmt} {scope : Scope} {f : Addr} {fd : FuncData} {N ps : List Str} {d : Fn} (C : Cf P w K mg base L Pg cl k) (hk : 2 ≤ k)
    (F : FunD K x qual params bd scope [] [] f fd) (S : FnScope N ps scope) (hns : d.ns = N.length) (hm : mSs L N scope false d.body bd = true) :
    FnOk P w K mg base (L2.CX P w) (k + 1) f fd ps (spF Pg.exc ⟨K, mg⟩ ps.length (body Pg cl d)) := by
  refine F.ok S (fun vs H Q E h => spF_len h) fun cdv A outer s H vs Q E hr hsp => ?_
  generalize hX : cxOf (L2.CX P w) P w K mg base N qual scope f cdv A outer s H E = X
  have Cc : Cs (L.at false) Pg cl (fun cls d _ H => E cls d H) X := by
    subst hX
    refine ⟨⟨S.nd, fun _ => rfl, hr.units, C.free, C.gcd, C.con, takes_of rfl rfl rfl rfl, fun _ f hf => ?_, C.xf⟩, S.kind, fun _ => rfl, fun _ => passes_of rfl, fun _ => rfl, rfl, fun _ c hc => ?_, C.hd⟩
    · obtain ⟨a, fd, ps, b, q1, q2, q3⟩ := C.fns f hf
      exact ⟨a, fd, ps, k, b, q1, q2, hr, q3⟩
    · obtain ⟨q0, C', fI, fd, q1, q2, q3, q4, q5, q6, q7⟩ := C.rs c hc
      exact ⟨⟨C', fI, 1, fd, q1, q2, q3, q4, q5, q6, hr.mono hk, q7⟩, q0⟩
  have hN : X.N = N := by subst hX; rfl
  have hS : X.env.scope = scope := by subst hX; rfl
  have hkx : kx X = ⟨K, mg⟩ := by subst hX; rfl
  refine ⟨_, sSs d.body Cc (by rw [hN, hS]; exact hm), ?_⟩
  obtain ⟨Z, G, ι, h, as, hl, R, r, p⟩ := hsp
  rw [hkx]
  refine ⟨Z, G, ι, h, as.map some ++ List.replicate (d.ns - as.length) none, R, ⟨?_, fun i y e => ?_⟩, OP.exit R p⟩
  · unfold L2.start
    rw [List.length_append, List.length_append, List.length_map, List.length_map, List.length_replicate, List.length_replicate, hns, r.length]
  · unfold L2.start
    by_cases hi : i < as.length
    · rw [List.getElem?_append_left (by rw [List.length_map]; exact hi), List.getElem?_map] at e
      rw [List.getElem?_append_left (by rw [List.length_map, ← r.length]; exact hi), List.getElem?_map]
      cases e1 : as[i]? with
      | none => rw [e1] at e; cases e
      | some z =>
        rw [e1] at e
        cases e
        obtain ⟨v, e2, r2⟩ := r.get e1
        exact ⟨v, by rw [e2]; rfl, r2⟩
    · rw [List.getElem?_append_right (by rw [List.length_map]; omega)] at e
      have := List.mem_of_getElem? e
      rw [List.mem_replicate] at this
      cases this.2
/-- WishError's own __init__ -/
theorem init_ok {x qual : Str} {params : Arguments} {bd : List Stmt} {scope : Scope} {f : Addr} {fd : FuncData} (F : FunD K x qual params bd scope [] [] f fd) (S : FnScope ["self", "value"] ["self", "value"] scope)
    (hb : ∃ p1 p2 p3 p4 p5 p6 p7 p8 p9 p10, bd = [.Expr (.Call (.Attribute (.Name "ValueError" p1) "__init__" p2) [.Name "self" p3, .Name "value" p4] [] p5) p6, .Assign [.Attribute (.Name "self" p7) "value" p8] (.Name "value" p9) p10] ∧ ∀ env : Env, ∃ pl : Sem Bool, eval (.Call (.Attribute (.Name "ValueError" p1) "__init__" p2) [.Name "self" p3, .Name "value" p4] [] p5) env = (do
      let ov ← eval (.Name "ValueError" p1) env
      standAt p2.atName
      let (f, first) ← holding [ov] (getMethod ov "__init__" pl)
      callWith p5 f first (backTo p5 (starEach [.Name "self" p3, .Name "value" p4] env)) (backToKw p5 (keywordEach [] env))))
    (hg : scope.names.lookup ("ValueError" : Str) = some .globalImplicit) (hs : scope.names.lookup ("self" : Str) = some .local) (hv : scope.names.lookup ("value" : Str) = some .local) (hm : mg "ValueError" = none)
    (vV : PySem.W.findCls K (.type "ValueError") (.type "type") "__init__" = some (.val (.builtin "ValueError.__init__"))) : FnOk P w K mg base (L2.CX P w) 1 f fd ["self", "value"] (spInit K) := by
  obtain ⟨p1, p2, p3, p4, p5, p6, p7, p8, p9, p10, rfl, hpl⟩ := hb
  refine F.ok S (fun vs H Q E h => ?_) fun cdv A outer s H vs Q E hr hsp => ?_
  · obtain ⟨a, C, y, rfl, _⟩ := h; rfl
  · generalize hX : cxOf (L2.CX P w) P w K mg base [("self" : Str), ("value" : Str)] qual scope f cdv A outer s H E = X
    have hN : X.N = [("self" : Str), ("value" : Str)] := by subst hX; rfl
    have hS : X.env.scope = scope := by subst hX; rfl
    have hK : X.K = K := by subst hX; rfl
    have hmg : X.mg = mg := by subst hX; rfl
    have v0 : ∀ p, PE X (.Name "self" p) (tVar 0) := fun p => pe_var (by rw [hN]; rfl) (.inl (by rw [hS]; exact hs))
    have v1 : ∀ p, PE X (.Name "value" p) (tVar 1) := fun p => pe_var (by rw [hN]; rfl) (.inl (by rw [hS]; exact hv))
    obtain ⟨pl, hpl⟩ := hpl X.env
    refine ⟨_, pss_cons (ps_expr (pe_veinit (show X.env.scope.names.lookup ("ValueError" : Str) = some .globalImplicit by rw [hS]; exact hg) (by rw [hmg]; exact hm) (by rw [hK]; exact vV) (pa_cons (v0 p3) (pa_cons (v1 p4) pa_nil)) hpl)) (pss_one (ps_ost (v0 p7) (v1 p9))), ?_⟩
    obtain ⟨a, C, y, rfl, hC, hno, ha, hq⟩ := hsp
    rw [hK]
    refine ⟨_, rfl, _, rfl, a, C, [y], rfl, by simp, hC, ha, _, rfl, _, rfl, a, C, rfl, hC, hno, .inl ⟨ha, fun dx h1 h2 => ?_⟩⟩
    exact hq dx h1 h2
end
end Mx


set_option Elab.async false
set_option linter.all false
set_option maxRecDepth 100000
set_option maxHeartbeats 8000000
/-! A whole program: what is looked at behind the top; levels of calls. -/
namespace Mx
open PySem PySem.Spec PyProof.Rows L2
/-- one def: its name, what it does, its names, its text -/
structure Ent where
  f : Str
  d : Fn
  N : List Str
  D : He.DefD
/-- what is looked at in the text of a def -/
def stOk (L : Lk) (e : Ent) : Bool :=
  (match e.D.scope.kind with | .function => true | _ => false) && !e.D.scope.isCoroutine && !e.D.scope.isGenerator && decide e.N.Nodup && decide (e.N.take e.d.ps.length = e.d.ps) && e.d.ps.all (locB e.D.scope) && e.D.scope.names.all (fun y => !(y.2 == .free)) &&
    decide (e.d.ns = e.N.length) && e.D.params.posonlyargs.isEmpty && e.D.params.kwonlyargs.isEmpty && e.D.params.vararg.isNone && e.D.params.kwarg.isNone && decide (e.D.params.args.map (·.arg) = e.d.ps) && e.D.dfl.isEmpty && e.D.kwd.isEmpty &&
    decide (e.D.at_ = (e.f, none)) && mSs L e.N e.D.scope false e.d.body e.D.body
theorem fnScope_of {N P : List Str} {sc : Scope} (h1 : (match sc.kind with | .function => true | _ => false) = true) (h2 : sc.isCoroutine = false) (h3 : sc.isGenerator = false) (h4 : N.Nodup) (h5 : N.take P.length = P) (h6 : P.all (locB sc) = true) (h7 : sc.names.all (fun y => !(y.2 == .free)) = true) : FnScope N P sc := by
  refine ⟨?_, h2, h3, h4, h5, fun x hx => loc_of (List.all_eq_true.mp h6 x hx), fun y hy e => ?_⟩
  · split at h1
    · assumption
    · cases h1
  · have := List.all_eq_true.mp h7 y hy
    rw [e] at this
    cases this
/-! ### the written part -/
mutual
def pvB (K : PySem.W.Frag) : PV → Value → Bool
  | .non, .none => true
  | .bl b, .bool c => b == c
  | .int i, .int j _ => decide (i = j)
  | .str x, .str y _ => decide (x = y)
  | .tup xs, .ref a => match K.lookup a with
    | some ⟨.type c, _, .seq its _, _⟩ => decide (c = "tuple") && decide (its.size ≤ sizeLine) && pvsB K xs its.toList
    | _ => false
  | _, _ => false
def pvsB (K : PySem.W.Frag) : List PV → List Value → Bool
  | [], [] => true
  | x :: xs, u :: us => pvB K x u && pvsB K xs us
  | _, _ => false
end
mutual
theorem pvB_ok {K : PySem.W.Frag} {mg : Str → Option Value} : ∀ {x : PV} {u : Value}, pvB K x u = true → ∃ y, RelV y u ∧ ∀ G ι, RV ⟨K, mg⟩ G ι x y
  | .non, u, h => by
    cases u <;> try (cases h; done)
    exact ⟨.non, rfl, fun _ _ => .non⟩
  | .bl b, u, h => by
    cases u <;> try (cases h; done)
    simp only [pvB, beq_iff_eq] at h
    subst h
    exact ⟨.bl b, rfl, fun _ _ => .bl b⟩
  | .int i, u, h => by
    cases u <;> try (cases h; done)
    simp only [pvB, decide_eq_true_eq] at h
    subst h
    exact ⟨.int i, ⟨_, rfl⟩, fun _ _ => .int i⟩
  | .str i, u, h => by
    cases u <;> try (cases h; done)
    simp only [pvB, decide_eq_true_eq] at h
    subst h
    exact ⟨.str i, ⟨_, rfl⟩, fun _ _ => .str i⟩
  | .tup xs, u, h => by
    cases u <;> try (cases h; done)
    rename_i a
    unfold pvB at h
    split at h
    · rename_i c od its n sl e
      simp only [Bool.and_eq_true, decide_eq_true_eq] at h
      obtain ⟨⟨rfl, h2⟩, h3⟩ := h
      obtain ⟨ys, r1, r2⟩ := pvsB_ok (K := K) (mg := mg) h3
      exact ⟨.ref a, rfl, fun G ι => .tup (.inr ⟨_, its, n, e, rfl, rfl, h2, r1⟩) (r2 G ι)⟩
    · cases h
  | .lst _, u, h => by cases u <;> cases h
  | .dic _ _, u, h => by cases u <;> cases h
  | .ref _, u, h => by cases u <;> cases h
  | .exn _ _, u, h => by cases u <;> cases h
theorem pvsB_ok {K : PySem.W.Frag} {mg : Str → Option Value} : ∀ {xs : List PV} {us : List Value}, pvsB K xs us = true → ∃ ys, Vals ys us ∧ ∀ G ι, RVs ⟨K, mg⟩ G ι xs ys
  | [], us, h => by
    cases us with
    | nil => exact ⟨[], .nil, fun _ _ => .nil⟩
    | cons _ _ => cases h
  | x :: xs, us, h => by
    cases us with
    | nil => cases h
    | cons u us =>
      unfold pvsB at h
      rw [Bool.and_eq_true] at h
      obtain ⟨y, r1, r2⟩ := pvB_ok (K := K) (mg := mg) h.1
      obtain ⟨ys, r3, r4⟩ := pvsB_ok (K := K) (mg := mg) h.2
      exact ⟨y :: ys, .cons r1 r3, fun G ι => .cons (r2 G ι) (r4 G ι)⟩
end
def oexB (K : PySem.W.Frag) (C : Addr) : Bool := match K.lookup C with
  | some ⟨.type t, _, .cls cd, sl⟩ => decide (t = "type") && (match cd.mro, sl.toList with
    | .ref C' :: bm, [_, _, _, _, some (.builtin n), _] => decide (C' = C) && decide (n = "ValueError.__new__") && !cd.hasDel && cd.hasDict && PySem.HandSPX.refsVE bm
    | _, _ => false) &&
    He.eqO (PySem.W.findIn K (.ref C) "__setattr__") (some (some (.builtin "object.__setattr__"))) && decide (PySem.W.subIn K (.ref C) (.type "BaseException") = some true) && decide (PySem.W.typeIn K (.ref C) = some (.type "type")) && PySem.W.keepIn K (.ref C)
  | _ => false
theorem oexB_ok {K : PySem.W.Frag} {C : Addr} (h : oexB K C = true) : OexC K C := by
  unfold oexB at h
  split at h
  · rename_i t dd cd sl e
    simp only [Bool.and_eq_true, decide_eq_true_eq] at h
    obtain ⟨⟨⟨⟨⟨rfl, h1⟩, h2⟩, h3⟩, h4⟩, h5⟩ := h
    split at h1
    · rename_i C' bm k0 k1 k2 k3 n k5 hm hs
      simp only [Bool.and_eq_true, decide_eq_true_eq, Bool.not_eq_true'] at h1
      obtain ⟨⟨⟨⟨rfl, rfl⟩, hdel⟩, hd⟩, hr⟩ := h1
      refine ⟨?_, He.eqO_ok h2, h3, h4, h5⟩
      obtain ⟨nm, bs, mro, ns, qn, hdc, sn, sub, ab, col, del⟩ := cd
      dsimp only at hm hdel hd
      subst hm hdel hd
      have hsl : sl = #[k0, k1, k2, k3, some (.builtin "ValueError.__new__"), k5] := by
        obtain ⟨l⟩ := sl
        simp only at hs
        rw [hs]
      subst hsl
      exact ⟨nm, qn, ns, bs, bm, sn, sub, ab, col, dd, k0, k1, k2, k3, k5, e, hr⟩
    · cases h1
  · cases h
abbrev iniA (K : PySem.W.Frag) : Addr := He.ma K (He.ga K "WishError") "__init__"
def veIB (K : PySem.W.Frag) : Bool := match PySem.W.findCls K (.type "ValueError") (.type "type") "__init__" with
  | some (.val (.builtin n)) => decide (n = "ValueError.__init__")
  | _ => false
theorem veIB_ok {K : PySem.W.Frag} (h : veIB K = true) : PySem.W.findCls K (.type "ValueError") (.type "type") "__init__" = some (.val (.builtin "ValueError.__init__")) := by
  unfold veIB at h
  split at h
  · rename_i n e
    rw [e, of_decide_eq_true h]
  · cases h
/-- what is looked at behind the top -/
def chkK (L : Lk) (exc : List Str) (cons : List (Str × PV)) (K : PySem.W.Frag) : Bool :=
  L.fns.all (fun f => He.Fa.ok K (.glo f)) && L.fr.all (fun x => He.Fa.ok K (.free x)) && (!L.gcd || He.eqO (PySem.W.nsIn K mainGlobals "gcd") (some (some (.builtin "math.gcd")))) &&
    cons.all (fun p => match PySem.W.nsIn K mainGlobals p.1 with | some (some u) => pvB K p.2 u | _ => false) &&
    exc.all (fun c => He.Fa.ok K (.glo c) && oexB K (He.ga K c) && xfB K (He.ga K c) && He.eqO (PySem.W.findIn K (.ref (He.ga K c)) "value") (some none) && He.eqO (PySem.W.findIn K (.ref (He.ga K c)) "__init__") (some (some (.ref (iniA K))))) &&
    exc.all (fun c => L.exc.all fun t => decide (PySem.W.exmOne K (.ref (He.ga K c)) (.ref (He.ga K t)) = some (subT exc c t))) &&
    (exc.isEmpty || (decide (PySem.W.typeIn K (.ref (iniA K)) = some (.type "function")) && He.Fa.ok K (.free "ValueError") && veIB K))
/-- no list: the script is none of it -/
def noLst (p : Addr × Obj) : Bool := match p.2.cls with
  | .type c => !(c == "list")
  | _ => true
def frM (n : Nat) (g : Addr → Option Obj) : PySem.W.Frag := (He.frG g (He.asD g n)).filter noLst
theorem frG_mem {g : Addr → Option Obj} {as : List Addr} {p : Addr × Obj} (h : p ∈ He.frG g as) : g p.1 = some p.2 := by
  unfold He.frG at h
  obtain ⟨a, ha, e⟩ := List.mem_filterMap.mp h
  cases q : g a with
  | none => rw [q] at e; cases e
  | some o => rw [q] at e; cases e; exact q
theorem mem_of_lookupA {α : Type} {a : Addr} {o : α} : ∀ {l : List (Addr × α)}, l.lookup a = some o → (a, o) ∈ l
  | (b, x) :: l, h => by
    rw [List.lookup_cons] at h
    cases hb : a == b with
    | true => rw [hb] at h; cases h; rw [beq_iff_eq.mp hb]; exact List.mem_cons_self
    | false => rw [hb] at h; exact List.mem_cons_of_mem _ (mem_of_lookupA h)
def NoL (K : PySem.W.Frag) : Prop := ∀ a o, K.lookup a = some o → o.cls ≠ .type "list"
theorem frM_in {n : Nat} {h : Heap} : (frM n h.get?).In h := fun a o e => by
  have m := mem_of_lookupA e
  exact frG_mem (List.mem_filter.mp m).1
theorem frM_no {n : Nat} {g : Addr → Option Obj} : NoL (frM n g) := fun a o e q => by
  have m := (List.mem_filter.mp (mem_of_lookupA e)).2
  unfold noLst at m
  dsimp only at m
  rw [q] at m
  cases m
abbrev AlM : Type := Bool × List He.FnW
def obsM (chk : PySem.W.Frag → Bool) (fn : List He.DefD) (K : PySem.W.Frag) : AlM := (chk K && fn.all fun d => d.ok K, fn.map fun d => He.fnW K d.at_)
def valM (fn : List He.DefD) : AlM := (true, fn.map He.DefD.val)
def SaysM (chk : PySem.W.Frag → Bool) (fn : List He.DefD) (K : PySem.W.Frag) : Prop := NoL K ∧ obsM chk fn K = valM fn
def obsMG (n : Nat) (chk : PySem.W.Frag → Bool) (fn : List He.DefD) (g : Addr → Option Obj) : AlM := obsM chk fn (frM n g)
def hookM (n : Nat) (chk : PySem.W.Frag → Bool) (fn : List He.DefD) : PySem.W.Hook where
  α := AlM
  obs := fun s => obsMG n chk fn s.heap.get?
  val := fun _ => valM fn
  says := fun _ h => ∃ K : PySem.W.Frag, K.In h ∧ SaysM chk fn K
  of := fun _ _ e => ⟨_, frM_in, frM_no, e⟩
  keeps := fun _ _ _ ⟨K, hK, c⟩ k => ⟨K, PySem.W.Frag.In.keeps hK k, c⟩
theorem obsMG_eq {n : Nat} {chk : PySem.W.Frag → Bool} {fn : List He.DefD} {g : Addr → Option Obj} {s : Shared} (h : ∀ a, g a = s.heap.get? a) : obsMG n chk fn g = (hookM n chk fn).obs s := by
  have e : g = s.heap.get? := funext h
  rw [e] <;> rfl
theorem SaysM.chk {chk : PySem.W.Frag → Bool} {fn : List He.DefD} {K : PySem.W.Frag} (c : SaysM chk fn K) : chk K = true := (He.ba (show (chk K && fn.all fun d => d.ok K) = true from congrArg (fun z : AlM => z.1) c.2)).1
theorem SaysM.def_ {chk : PySem.W.Frag → Bool} {fn : List He.DefD} {K : PySem.W.Frag} (c : SaysM chk fn K) {d : He.DefD} (h : d ∈ fn) : ∃ fd, FunD K d.name d.qual d.params d.body d.scope (d.dvs K) (d.kws K) (He.fAd K d.at_) fd := by
  have c2 := (He.ba (show (chk K && fn.all fun d => d.ok K) = true from congrArg (fun z : AlM => z.1) c.2)).2
  have e : fn.map (fun d => He.fnW K d.at_) = fn.map He.DefD.val := congrArg (fun z : AlM => z.2) c.2
  obtain ⟨i, hi, hd⟩ := List.mem_iff_getElem.mp h
  have e2 : (fn.map fun d => He.fnW K d.at_)[i]? = (fn.map He.DefD.val)[i]? := by rw [e]
  rw [List.getElem?_map, List.getElem?_map, List.getElem?_eq_getElem hi, hd] at e2
  exact He.DefD.funD (Option.some.inj e2) (List.all_eq_true.mp c2 d h)

section
variable {P : Program} {w : World} {K : PySem.W.Frag} {mg : Str → Option Value} {base : Heap} {L : Lk} {Pg : Pg} {ents : List Ent} {cons : List (Str × PV)} {dI : He.DefD}
/-- the text of WishError's __init__ -/
def InitD (d : He.DefD) : Prop := d.at_ = (("WishError" : Str), some ("__init__" : Str)) ∧ d.dfl = [] ∧ d.kwd = [] ∧ d.params.posonlyargs = [] ∧ d.params.kwonlyargs = [] ∧ d.params.vararg = none ∧ d.params.kwarg = none ∧ d.params.args.map (·.arg) = [("self" : Str), ("value" : Str)] ∧
  FnScope ["self", "value"] ["self", "value"] d.scope ∧ d.scope.names.lookup ("ValueError" : Str) = some .globalImplicit ∧ d.scope.names.lookup ("self" : Str) = some .local ∧ d.scope.names.lookup ("value" : Str) = some .local ∧
  ∃ p1 p2 p3 p4 p5 p6 p7 p8 p9 p10, d.body = [.Expr (.Call (.Attribute (.Name "ValueError" p1) "__init__" p2) [.Name "self" p3, .Name "value" p4] [] p5) p6, .Assign [.Attribute (.Name "self" p7) "value" p8] (.Name "value" p9) p10] ∧ ∀ env : Env, ∃ pl : Sem Bool, eval (.Call (.Attribute (.Name "ValueError" p1) "__init__" p2) [.Name "self" p3, .Name "value" p4] [] p5) env = (do
      let ov ← eval (.Name "ValueError" p1) env
      standAt p2.atName
      let (f, first) ← holding [ov] (getMethod ov "__init__" pl)
      callWith p5 f first (backTo p5 (starEach [.Name "self" p3, .Name "value" p4] env)) (backToKw p5 (keywordEach [] env)))
/-- what is said of the text alone -/
structure Txt (L : Lk) (Pg : Mx.Pg) (ents : List Ent) (cons : List (Str × PV)) (dI : He.DefD) : Prop where
  st : ∀ e ∈ ents, stOk L e = true
  fns : ∀ f ∈ L.fns, ∃ e ∈ ents, e.f = f ∧ Pg.fns f = some e.d
  con : ∀ x ∈ L.cons, ∃ v, (x, v) ∈ cons ∧ Pg.con x = some v
  exc : ∀ t ∈ L.exc, t ∈ Pg.exc
  ini : Pg.exc ≠ [] → InitD dI
abbrev fnsOf (ents : List Ent) (Pg : Mx.Pg) (dI : He.DefD) : List He.DefD := ents.map (·.D) ++ (if Pg.exc.isEmpty then [] else [dI])
theorem ent_ok (T : Txt L Pg ents cons dI) (S : SaysM (chkK L Pg.exc cons) (fnsOf ents Pg dI) K) {e : Ent} (he : e ∈ ents) : ∃ fd, FunD K e.D.name e.D.qual e.D.params e.D.body e.D.scope [] [] (He.ga K e.f) fd ∧ FnScope e.N e.d.ps e.D.scope ∧ e.d.ns = e.N.length ∧ mSs L e.N e.D.scope false e.d.body e.D.body = true ∧
    ∀ mg : Str → Option Value, mg e.f = some (.ref (He.ga K e.f)) → DefK ⟨K, mg⟩ e.f (He.ga K e.f) fd e.d.ps := by
  have h := T.st e he
  unfold stOk at h
  simp only [Bool.and_eq_true, decide_eq_true_eq, Bool.not_eq_true', List.isEmpty_iff, Option.isNone_iff_eq_none] at h
  obtain ⟨⟨⟨⟨⟨⟨⟨⟨⟨⟨⟨⟨⟨⟨⟨⟨h1, h2⟩, h3⟩, h4⟩, h5⟩, h6⟩, h7⟩, h8⟩, h9⟩, h10⟩, h11⟩, h12⟩, h13⟩, h14⟩, h15⟩, h16⟩, h17⟩ := h
  obtain ⟨fd, F⟩ := S.def_ (d := e.D) (List.mem_append_left _ (List.mem_map_of_mem he))
  have e1 : e.D.dvs K = [] := by unfold He.DefD.dvs; rw [h14]; rfl
  have e2 : e.D.kws K = [] := by unfold He.DefD.kws; rw [h15]; rfl
  have e3 : He.fAd K e.D.at_ = He.ga K e.f := by rw [h16]; rfl
  rw [e1, e2, e3] at F
  have nd : e.d.ps.Nodup := by rw [← h5]; exact (List.take_sublist _ _).nodup h4
  refine ⟨fd, F, fnScope_of h1 h2 h3 h4 h5 h6 h7, h8, h17, fun mg hmg => ?_⟩
  obtain ⟨oc, od, dV, kV, doc, pm, an, cdv, ct, osl, rfl, lk, hcd, hD, hK⟩ := F.ex
  refine ⟨hmg, F.kp, h9, h10, h11, h12, ?_, h13, nd⟩
  rcases hD with ⟨_, rfl⟩ | ⟨q, _⟩
  · rfl
  · exact absurd rfl q
theorem lev (T : Txt L Pg ents cons dI) {h : Heap} (X : K.In h) (G : h.Ns mainGlobals mg) (S : SaysM (chkK L Pg.exc cons) (fnsOf ents Pg dI) K) : ∀ n : Nat, Cf P w K mg base L Pg (call Pg n) (n + 2) := by
  have hc := S.chk
  unfold chkK at hc
  simp only [Bool.and_eq_true, List.all_eq_true, decide_eq_true_eq] at hc
  obtain ⟨⟨⟨⟨⟨⟨c1, c2⟩, c3⟩, c4⟩, c5⟩, c6⟩, c7⟩ := hc
  have gl : ∀ {c : Str} {C : Addr}, He.Fa.ok K (.glo c) = true → mg c = some (.ref C) → C = He.ga K c := fun h1 h2 => by
    have := He.glo_ok X G h1
    rw [h2] at this
    cases this; rfl
  have xf : ∀ c ∈ Pg.exc, ∀ C, mg c = some (.ref C) → XfC K C ∧ PySem.W.findIn K (.ref C) "value" = some none := fun c hcc C hC => by
    have q := c5 c hcc
    have := gl q.1.1.1.1 hC
    subst this
    exact ⟨xfB_ok q.1.1.2, He.eqO_ok q.1.2⟩
  have hd : ∀ t ∈ L.exc, ∃ T, mg t = some (.ref T) ∧ ∀ c ∈ Pg.exc, ∀ C, mg c = some (.ref C) → PySem.W.exmOne K (.ref C) (.ref T) = some (subT Pg.exc c t) := fun t ht => by
    have q := c5 t (T.exc t ht)
    refine ⟨He.ga K t, He.glo_ok X G q.1.1.1.1, fun c hcc C hC => ?_⟩
    have q2 := c5 c hcc
    have := gl q2.1.1.1.1 hC
    subst this
    exact c6 c hcc t ht
  have rs : ∀ c ∈ L.exc, c ∈ Pg.exc ∧ ∃ (C fI : Addr) (fd : FuncData), mg c = some (.ref C) ∧ OexC K C ∧ PySem.W.findIn K (.ref C) "value" = some none ∧ PySem.W.findIn K (.ref C) "__init__" = some (some (.ref fI)) ∧ PySem.W.typeIn K (.ref fI) = some (.type "function") ∧
      FnOk P w K mg base (L2.CX P w) 1 fI fd ["self", "value"] (spInit K) ∧ L2.Binds K fd ["self", "value"] [] := fun c hcL => by
    have hcc := T.exc c hcL
    have q := c5 c hcc
    have hne : Pg.exc ≠ [] := fun e => by rw [e] at hcc; cases hcc
    have hne' : Pg.exc.isEmpty = false := by
      cases e : Pg.exc with
      | nil => exact absurd e hne
      | cons _ _ => rfl
    rw [hne', Bool.false_or, Bool.and_eq_true, Bool.and_eq_true, decide_eq_true_eq] at c7
    obtain ⟨⟨d1, d2⟩, d3⟩ := c7
    obtain ⟨i1, i2, i3, i4, i5, i6, i7, i8, i9, i10, i11, i12, i13⟩ := T.ini hne
    have hmem : dI ∈ fnsOf ents Pg dI := List.mem_append_right _ (by rw [hne']; exact List.mem_singleton.mpr rfl)
    obtain ⟨fd, F⟩ := S.def_ hmem
    have e1 : dI.dvs K = [] := by unfold He.DefD.dvs; rw [i2]; rfl
    have e2 : dI.kws K = [] := by unfold He.DefD.kws; rw [i3]; rfl
    have e3 : He.fAd K dI.at_ = iniA K := by rw [i1]; rfl
    rw [e1, e2, e3] at F
    refine ⟨hcc, He.ga K c, iniA K, fd, He.glo_ok X G q.1.1.1.1, oexB_ok q.1.1.1.2, He.eqO_ok q.1.2, He.eqO_ok q.2, d1, init_ok F i9 i13 i10 i11 i12 (He.free_ok X G d2) (veIB_ok d3), ?_⟩
    refine L2.Binds.all fun us hl => ?_
    obtain ⟨oc, od, dV, kV, doc, pm, an, cdv, ct, osl, rfl, lk, hcd, hD, hK⟩ := F.ex
    have hdV : dV = .none := by
      rcases hD with ⟨_, rfl⟩ | ⟨q, _⟩
      · rfl
      · exact absurd rfl q
    have hb := binds_all (fd := PySem.W.fnOf dI.name dI.qual dI.params dI.body dI.scope dV kV doc pm an cdv ct) (ps := [("self" : Str), ("value" : Str)]) i4 i5 i6 i7 (by subst hdV; rfl) i8 (by decide) (us := us) (ws := []) (ks := []) (as := us) (by
      unfold argsOf
      rw [if_pos (by refine ⟨by simpa using hl, rfl, List.nodup_nil, fun k hk => by cases hk⟩)]
      have e0 : ([("self" : Str), ("value" : Str)] : List Str).drop us.length = [] := List.drop_eq_nil_of_le (by rw [hl]; exact Nat.le_refl _)
      rw [e0]
      simp [looks])
    simpa using hb
  have con : ∀ x ∈ L.cons, ∃ v u y, Pg.con x = some v ∧ mg x = some u ∧ RelV y u ∧ ∀ G ι, RV ⟨K, mg⟩ G ι v y := fun x hx => by
    obtain ⟨v, h1, h2⟩ := T.con x hx
    have q := c4 (x, v) h1
    dsimp only at q
    split at q
    · rename_i u e
      obtain ⟨y, r1, r2⟩ := pvB_ok (K := K) (mg := mg) q
      exact ⟨v, u, y, h2, PySem.W.mg_of X G e, r1, r2⟩
    · cases q
  have gcd : L.gcd = true → mg "gcd" = some (.builtin "math.gcd") := fun hg => by
    rw [hg] at c3
    exact PySem.W.mg_of X G (He.eqO_ok (by simpa using c3))
  have free : ∀ x ∈ L.fr, mg x = none := fun x hx => He.free_ok X G (c2 x hx)
  intro n
  induction n with
  | zero =>
    refine ⟨free, gcd, con, fun f hf => ?_, xf, rs, hd⟩
    obtain ⟨e, he, rfl, hP⟩ := T.fns f hf
    obtain ⟨fd, F, Sc, hns, hm, hD⟩ := ent_ok T S he
    refine ⟨He.ga K e.f, fd, e.d.ps, fun _ _ => .stuck, hD mg (He.glo_ok X G (c1 _ hf)), ⟨fun vs H Q E q => spF_len q, fun A outer s H args us vs Q E _ _ _ _ q => ?_⟩, fun xs ks ys h => ?_⟩
    · obtain ⟨Z, G, ι, h, as, hl, R, r, p⟩ := q
      exact p.elim
    · show Res.stuck = _
      cases argsOf e.d.ps xs ks ys <;> rfl
  | succ n ih =>
    refine ⟨free, gcd, con, fun f hf => ?_, xf, rs, hd⟩
    obtain ⟨e, he, rfl, hP⟩ := T.fns f hf
    obtain ⟨fd, F, Sc, hns, hm, hD⟩ := ent_ok T S he
    refine ⟨He.ga K e.f, fd, e.d.ps, body Pg (call Pg n) e.d, hD mg (He.glo_ok X G (c1 _ hf)), fn_level ih (by omega) F Sc hns hm, fun xs ks ys h => ?_⟩
    show call Pg (n + 1) e.f xs ks ys h = _
    unfold Mx.call
    rw [hP] <;> rfl
/-- the law's own def -/
theorem law_fn (T : Txt L Pg ents cons dI) {e : Ent} (he : e ∈ ents) (hps : e.d.ps = [("script" : Str)]) {h : Heap} (X : K.In h) (G : h.Ns mainGlobals mg) (S : SaysM (chkK L Pg.exc cons) (fnsOf ents Pg dI) K) (hg : mg e.f = some (.ref (He.ga K e.f))) (n : Nat) :
    ∃ fd : FuncData, (∀ (s : Shared) (v : Value), BindsTo s fd ⟨[v], []⟩ [("script", v)]) ∧ ∀ base : Heap, K.In base → base.Ns mainGlobals mg → FnOk P w K mg base (L2.CX P w) (n + 3) (He.ga K e.f) fd ["script"] (spF Pg.exc ⟨K, mg⟩ 1 (body Pg (call Pg n) e.d)) := by
  obtain ⟨fd, F, Sc, hns, hm, hD⟩ := ent_ok T S he
  have D := hD mg hg
  refine ⟨fd, fun s v => .of_eq ?_, fun base hb1 hb2 => ?_⟩
  · have hb := binds_all D.po D.ko D.va D.ka D.df D.nm D.nd (us := [v]) (ws := []) (ks := []) (as := [v]) (by
      unfold argsOf
      rw [hps]
      rw [if_pos (by refine ⟨rfl, rfl, List.nodup_nil, fun k hk => by cases hk⟩)]
      rfl)
    rw [hps] at hb
    simpa using hb
  · have := fn_level (lev (P := P) (w := w) (base := base) T X G S n) (by omega) F Sc hns hm
    rw [hps] at this
    exact this
/-- the law's promise, from what its body does -/
theorem law_sp {exc : List Str} {b : List PV → MH → Res PV} {h' : MH} {H : Hp} {a : Addr} {ns : List Int} (hO : Only H) (hn : NoL K) (hS : SqL K H a (ns.map V.int)) (hb : b [.lst (ns.map .int)] [] = .ok (.bl true) h') :
    spF exc ⟨K, mg⟩ 1 b [.ref a] H (fun v _ => v = .bl true) fun _ _ _ => False := by
  have rd : Rd H a (.lst (ns.map V.int)) := by
    rcases hS with q | ⟨o, its, n, q1, q2, _⟩
    · exact q
    · exact absurd q2 (hn a o q1)
  have rv : ∀ l : List Int, RVs ⟨K, mg⟩ H [] (l.map PV.int) (l.map V.int) := fun l => by
    induction l with
    | nil => exact .nil
    | cons i l ih => exact .cons (.int i) ih
  refine ⟨[], H, [], [], [.lst (ns.map .int)], rfl, ⟨Same.refl _, rfl, List.nodup_nil, fun _ h => (by cases h), fun n a o e _ => (by simp at e), fun _ h => (by cases h)⟩, .cons (.lst rd (rv ns)) .nil, ?_⟩
  rw [hb]
  intro G' ι' H' x n r
  exact r.bl_inv
end

/-! ### a program by its defs -/
def mkPg (ents : List Ent) (cons : List (Str × PV)) (exc : List Str) : Mx.Pg := ⟨fun f => (ents.map fun e => (e.f, e.d)).lookup f, fun x => cons.lookup x, exc⟩
theorem lookup_mem {α : Type} : ∀ {l : List (Str × α)} {x : Str}, x ∈ l.map (·.1) → ∃ v, (x, v) ∈ l ∧ l.lookup x = some v
  | (k, v) :: l, x, h => by
    rw [List.lookup_cons]
    cases hb : x == k with
    | true =>
      have := beq_iff_eq.mp hb
      subst this
      exact ⟨v, List.mem_cons_self, rfl⟩
    | false =>
      rw [List.map_cons, List.mem_cons] at h
      rcases h with e | h
      · subst e; simp at hb
      · obtain ⟨w, q1, q2⟩ := lookup_mem h
        exact ⟨w, List.mem_cons_of_mem _ q1, q2⟩
theorem txt_of {L : Lk} {ents : List Ent} {cons : List (Str × PV)} {exc : List Str} {dI : He.DefD} (hf : L.fns = ents.map (·.f)) (hc : L.cons = cons.map (·.1)) (he : L.exc = exc) (st : ents.all (stOk L) = true) (ini : exc ≠ [] → InitD dI) : Txt L (mkPg ents cons exc) ents cons dI where
  st := fun e h => List.all_eq_true.mp st e h
  fns := fun f h => by
    rw [hf] at h
    have h2 : f ∈ (ents.map fun e => (e.f, e.d)).map (·.1) := by
      rw [List.map_map]; exact h
    obtain ⟨d, q1, q2⟩ := lookup_mem h2
    obtain ⟨e, he, q3⟩ := List.mem_map.mp q1
    cases q3
    exact ⟨e, he, rfl, q2⟩
  con := fun x h => by
    rw [hc] at h
    exact lookup_mem h
  exc := fun t h => by rw [← he]; exact h
  ini := ini
/-- as seen by a caller that takes no exception -/
theorem FnOk_calm {P : Program} {w : World} {K : PySem.W.Frag} {mg : Str → Option Value} {base : Heap} {CX' : CXT} {k : Nat} {f : Addr} {fd : FuncData} {ps : List Str} {sp : Sp} (F : FnOk P w K mg base (L2.CX P w) k f fd ps sp) :
    FnOk P w K mg base CX' k f fd ps (fun vs H Q _ => sp vs H Q fun _ _ _ => False) :=
  ⟨fun vs H Q E q => F.len vs H Q _ q, fun A outer s H args us vs Q E hr he hb hv hs => codeAny_mono (F.run A outer s H args us vs Q _ hr he hb hv hs) fun r s' q => by
    cases r with
    | error e =>
      obtain ⟨_, _, _, _, _, _, _, _, _, _, _, _, z⟩ := q
      exact z.elim
    | ok fl =>
      cases fl with
      | ret u => exact q
      | next => exact q
      | brk => exact q
      | cont => exact q⟩
/-- the law's end -/
theorem law_end {l : PySem.W.OpenLaw} {q : Program} {loose : List Str} {ents : List Ent} {cons : List (Str × PV)} {exc : List Str} {L : Lk} {dI : He.DefD} {d : DefRec} {e : Ent} (T : Txt L (mkPg ents cons exc) ents cons dI) (he : e ∈ ents) (hps : e.d.ps = [("script" : Str)]) (hnm : d.name = e.f) (hdf : d.params.defaults = [])
    (hfn : e.f ∈ L.fns) (hn : l.most = some 63) (n : Nat) (hr : Room (n + 3) callerA) (hb : ∀ ns : List Int, ns.length ≤ 63 → ∃ h', body (mkPg ents cons exc) (call (mkPg ents cons exc) n) e.d [.lst (ns.map .int)] [] = .ok (.bl true) h') :
    PySem.W.WalkO q loose (PySem.W.XL q []) (hookM 5 (chkK L exc cons) (fnsOf ents (mkPg ents cons exc) dI)).says l.row.toRowW d [] (fun f vs => PySem.call f vs) := by
  refine L2.walk_ofE (l := l) (n := 63) (k := n + 3) (x := "script") (CX := fun _ _ _ _ _ _ => False) hn (by rw [sizeLine_eq]; decide) hdf hr ?_ (fun _ _ _ _ z => z)
  intro w mg fa h Y G hmg
  obtain ⟨K, KX, S⟩ := Y
  rw [hnm] at hmg
  have hc := S.chk
  have hglo : mg e.f = some (.ref (He.ga K e.f)) := by
    unfold chkK at hc
    simp only [Bool.and_eq_true, List.all_eq_true] at hc
    exact He.glo_ok KX G (hc.1.1.1.1.1.1 _ hfn)
  have efa := hmg.symm.trans hglo
  cases efa
  obtain ⟨fd, b1, b2⟩ := law_fn (P := l.prog) (w := w) T he hps KX G S hglo n
  exact ⟨K, fd, fun vs H Q _ => spF exc ⟨K, mg⟩ 1 (body (mkPg ents cons exc) (call (mkPg ents cons exc) n) e.d) vs H Q fun _ _ _ => False, KX, b1, fun H a ns hl hO hS => let ⟨h', e⟩ := hb ns hl; law_sp (h' := h') hO S.1 hS e, fun base q1 q2 => FnOk_calm (b2 base q1 q2)⟩
end Mx


set_option Elab.async false
set_option linter.all false
set_option maxRecDepth 100000
set_option maxHeartbeats 8000000
/-! Lemmas for runs of the small language. -/
namespace Mx
open PySem PySem.Spec PyProof.Rows L2
section
variable {α β : Type}
theorem Res.bind_ok (a : α) (h : MH) (f : α → MH → Res β) : (Res.ok a h).bind f = f a h := Eq.trans rfl rfl
theorem Res.bind_exn (c : Str) (v : PV) (h : MH) (f : α → MH → Res β) : (Res.exn c v h).bind f = .exn c v h := Eq.trans rfl rfl
theorem Res.out_ok (a : α) (h : MH) (ρ : Env') (f : α → MH → Out) : (Res.ok a h).out ρ f = f a h := Eq.trans rfl rfl
theorem Res.out_exn (c : Str) (v : PV) (h : MH) (ρ : Env') (f : α → MH → Out) : (Res.exn c v h : Res α).out ρ f = .exn c v ρ h := Eq.trans rfl rfl
@[simp] theorem Res.nox_ok (a : α) (h : MH) : (Res.ok a h).nox = .ok a h := Eq.trans rfl rfl
end
theorem Out.seq_nx (ρ : Env') (h : MH) (f : Env' → MH → Out) : (Out.nx ρ h).seq f = f ρ h := Eq.trans rfl rfl
theorem Out.seq_rt (v : PV) (h : MH) (f : Env' → MH → Out) : (Out.rt v h).seq f = .rt v h := Eq.trans rfl rfl
theorem Out.seq_exn (c : Str) (v : PV) (ρ : Env') (h : MH) (f : Env' → MH → Out) : (Out.exn c v ρ h).seq f = .exn c v ρ h := Eq.trans rfl rfl
theorem Out.seq_bk (ρ : Env') (h : MH) (f : Env' → MH → Out) : (Out.bk ρ h).seq f = .bk ρ h := Eq.trans rfl rfl
theorem Out.seq_ct (ρ : Env') (h : MH) (f : Env' → MH → Out) : (Out.ct ρ h).seq f = .ct ρ h := Eq.trans rfl rfl
theorem Out.turn_nx (ρ : Env') (h : MH) (f : Env' → MH → Out) : (Out.nx ρ h).turn f = f ρ h := Eq.trans rfl rfl
theorem Out.turn_ct (ρ : Env') (h : MH) (f : Env' → MH → Out) : (Out.ct ρ h).turn f = f ρ h := Eq.trans rfl rfl
theorem Out.turn_bk (ρ : Env') (h : MH) (f : Env' → MH → Out) : (Out.bk ρ h).turn f = .nx ρ h := Eq.trans rfl rfl
theorem Out.turn_rt (v : PV) (h : MH) (f : Env' → MH → Out) : (Out.rt v h).turn f = .rt v h := Eq.trans rfl rfl
theorem Out.turn_exn (c : Str) (v : PV) (ρ : Env') (h : MH) (f : Env' → MH → Out) : (Out.exn c v ρ h).turn f = .exn c v ρ h := Eq.trans rfl rfl
/-! ### what goes on behind is not looked at ahead -/
class Kt (T : Type) where
  k : T
section
variable {α β : Type}
def bnd (r : Res α) [f : Kt (α → MH → Res β)] : Res β := r.bind f.k
def otd (r : Res α) (ρ : Env') [f : Kt (α → MH → Out)] : Out := r.out ρ f.k
def sqd (o : Out) [f : Kt (Env' → MH → Out)] : Out := o.seq f.k
def tnd (o : Out) [f : Kt (Env' → MH → Out)] : Out := o.turn f.k
@[simp ↓] theorem bnd_hide (r : Res α) (f : α → MH → Res β) : r.bind f = @bnd α β r ⟨f⟩ := Eq.trans rfl rfl
@[simp ↓] theorem otd_hide (r : Res α) (ρ : Env') (f : α → MH → Out) : r.out ρ f = @otd α r ρ ⟨f⟩ := Eq.trans rfl rfl
@[simp ↓] theorem sqd_hide (o : Out) (f : Env' → MH → Out) : o.seq f = @sqd o ⟨f⟩ := Eq.trans rfl rfl
@[simp ↓] theorem tnd_hide (o : Out) (f : Env' → MH → Out) : o.turn f = @tnd o ⟨f⟩ := Eq.trans rfl rfl
@[simp] theorem bnd_ok (a : α) (h : MH) (f : α → MH → Res β) : @bnd α β (.ok a h) ⟨f⟩ = f a h := Eq.trans rfl rfl
@[simp] theorem bnd_exn (c : Str) (v : PV) (h : MH) (f : α → MH → Res β) : @bnd α β (.exn c v h) ⟨f⟩ = .exn c v h := Eq.trans rfl rfl
@[simp] theorem otd_ok (a : α) (h : MH) (ρ : Env') (f : α → MH → Out) : @otd α (.ok a h) ρ ⟨f⟩ = f a h := Eq.trans rfl rfl
@[simp] theorem otd_exn (c : Str) (v : PV) (h : MH) (ρ : Env') (f : α → MH → Out) : @otd α (.exn c v h) ρ ⟨f⟩ = .exn c v ρ h := Eq.trans rfl rfl
@[simp] theorem sqd_nx (ρ : Env') (h : MH) (f : Env' → MH → Out) : @sqd (.nx ρ h) ⟨f⟩ = f ρ h := Eq.trans rfl rfl
@[simp] theorem sqd_rt (v : PV) (h : MH) (f : Env' → MH → Out) : @sqd (.rt v h) ⟨f⟩ = .rt v h := Eq.trans rfl rfl
@[simp] theorem sqd_exn (c : Str) (v : PV) (ρ : Env') (h : MH) (f : Env' → MH → Out) : @sqd (.exn c v ρ h) ⟨f⟩ = .exn c v ρ h := Eq.trans rfl rfl
@[simp] theorem sqd_bk (ρ : Env') (h : MH) (f : Env' → MH → Out) : @sqd (.bk ρ h) ⟨f⟩ = .bk ρ h := Eq.trans rfl rfl
@[simp] theorem sqd_ct (ρ : Env') (h : MH) (f : Env' → MH → Out) : @sqd (.ct ρ h) ⟨f⟩ = .ct ρ h := Eq.trans rfl rfl
@[simp] theorem tnd_nx (ρ : Env') (h : MH) (f : Env' → MH → Out) : @tnd (.nx ρ h) ⟨f⟩ = f ρ h := Eq.trans rfl rfl
@[simp] theorem tnd_ct (ρ : Env') (h : MH) (f : Env' → MH → Out) : @tnd (.ct ρ h) ⟨f⟩ = f ρ h := Eq.trans rfl rfl
@[simp] theorem tnd_bk (ρ : Env') (h : MH) (f : Env' → MH → Out) : @tnd (.bk ρ h) ⟨f⟩ = .nx ρ h := Eq.trans rfl rfl
@[simp] theorem tnd_rt (v : PV) (h : MH) (f : Env' → MH → Out) : @tnd (.rt v h) ⟨f⟩ = .rt v h := Eq.trans rfl rfl
@[simp] theorem tnd_exn (c : Str) (v : PV) (ρ : Env') (h : MH) (f : Env' → MH → Out) : @tnd (.exn c v ρ h) ⟨f⟩ = .exn c v ρ h := Eq.trans rfl rfl
end
/-! ### a call -/
theorem call_at {P : Pg} {f : Str} {d : Fn} {n : Nat} {xs ys as : List PV} {ks : List Str} {h : MH} (hf : P.fns f = some d) (ha : argsOf d.ps xs ks ys = some as) : call P (n + 1) f xs ks ys h = body P (call P n) d as h := by
  show (match P.fns f with
    | none => Res.stuck
    | some d => match argsOf d.ps xs ks ys with
      | none => .stuck
      | some as => body P (call P n) d as h) = _
  rw [hf]
  dsimp only
  rw [ha]
theorem args_pos {ps : List Str} {xs : List PV} (h : xs.length = ps.length) : argsOf ps xs [] [] = some xs := by
  unfold argsOf
  rw [if_pos ⟨by simpa using h, rfl, List.nodup_nil, fun k hk => by cases hk⟩]
  rw [h, List.drop_length]
  simp [looks]
/-! ### the end of a def -/
theorem thaw_of {n : Nat} {h : MH} {v : PV} (hv : ∀ k, v ≠ .ref k) : thaw n h v = v := by
  cases v <;> first | rfl | exact absurd rfl (hv _)
theorem leave_len {h h' : MH} {v : PV} (hl : h'.length = h.length) (hv : ∀ k, v ≠ .ref k) : leave h v h' = (v, h') := by
  unfold leave
  by_cases hc : below h.length (thaw h.length h' v) ∧ tidy h h' ∧ h.length ≤ h'.length
  · rw [if_pos hc, thaw_of hv, List.take_of_length_le (by omega)]
  · rw [if_neg hc]
theorem leave_ref {h h' : MH} {k : Nat} (hl : h'.length = h.length) (hk : k < h.length) : leave h (.ref k) h' = (.ref k, h') := by
  unfold leave
  have e : thaw h.length h' (.ref k) = .ref k := by
    show (if k < h.length then PV.ref k else _) = _
    rw [if_pos hk]
  by_cases hc : below h.length (thaw h.length h' (.ref k)) ∧ tidy h h' ∧ h.length ≤ h'.length
  · rw [if_pos hc, e, List.take_of_length_le (by omega)]
  · rw [if_neg hc]
/-- new things are dropped -/
theorem leave_drop {h h' : MH} {v : PV} (hl : h.length ≤ h'.length) (ht : h'.take h.length = h) (hv : ∀ k, v ≠ .ref k) (hb : below h.length v) : leave h v h' = (v, h) := by
  unfold leave
  rw [thaw_of hv]
  have hd : tidy h h' := fun n o hn e => by
    have : (h'.take h.length)[n]? = some o := by rw [List.getElem?_take_of_lt hn]; exact e
    rw [ht] at this
    exact .inl this
  rw [if_pos ⟨hb, hd, hl⟩, ht]
@[simp] theorem leave_self {h : MH} {v : PV} (hv : ∀ k, v ≠ .ref k) : leave h v h = (v, h) := leave_len rfl hv
theorem leave_non (h : MH) : leave h .non h = (.non, h) := leave_len rfl fun k e => by cases e
theorem leave_bl (h : MH) (b : Bool) : leave h (.bl b) h = (.bl b, h) := leave_len rfl fun k e => by cases e
theorem leave_int (h : MH) (i : Int) : leave h (.int i) h = (.int i, h) := leave_len rfl fun k e => by cases e
theorem leave_str (h : MH) (x : Str) : leave h (.str x) h = (.str x, h) := leave_len rfl fun k e => by cases e
theorem leave_tup (h : MH) (xs : List PV) : leave h (.tup xs) h = (.tup xs, h) := leave_len rfl fun k e => by cases e
theorem leave_lst (h : MH) (xs : List PV) : leave h (.lst xs) h = (.lst xs, h) := leave_len rfl fun k e => by cases e
theorem res_rt {h h' : MH} {v : PV} (e : leave h v h' = (v, h')) : (Out.rt v h').res false h = .ok v h' := by
  show Res.ok (leave h v h').1 (leave h v h').2 = _
  rw [e]
theorem res_nx {h h' : MH} {ρ : Env'} (e : leave h .non h' = (.non, h')) : (Out.nx ρ h').res false h = .ok .non h' := by
  show Res.ok (leave h .non h').1 (leave h .non h').2 = _
  rw [e]
theorem res_exn {h h' : MH} {ρ : Env'} {c : Str} {v : PV} (e : leave h v h' = (v, h')) : (Out.exn c v ρ h').res false h = .exn c v h' := by
  show Res.exn c (leave h v h').1 (leave h v h').2 = _
  rw [e]
theorem res_kp {h h' : MH} {v : PV} : (Out.rt v h').res true h = .ok v h' := rfl

@[simp] theorem ixN_0 (n : Nat) : ixN (n + 1) 0 = some 0 := by
  unfold ixN
  rw [if_pos (Int.le_refl 0), if_pos (by omega)]
  rfl
@[simp] theorem ixN_1 (n : Nat) : ixN (n + 1 + 1) 1 = some 1 := by
  unfold ixN
  rw [if_pos (by decide), if_pos (by omega)]
  rfl
@[simp] theorem atI_0 {α : Type} (x : α) (xs : List α) : atI (x :: xs) 0 = some x := by
  unfold atI
  rw [List.length_cons, ixN_0]
  rfl
@[simp] theorem atI_1 {α : Type} (x y : α) (xs : List α) : atI (x :: y :: xs) 1 = some y := by
  unfold atI
  rw [List.length_cons, List.length_cons, ixN_1]
  rfl
theorem fits_of {i j : Int} (h1 : i.natAbs < 2 ^ 9000) (h2 : j.natAbs < 2 ^ 9000) : fits i j := by
  have l : ∀ n : Nat, n < 2 ^ 9000 → n.log2 < 9001 := fun n h => by
    by_cases h0 : n = 0
    · subst h0; decide
    · have := (Nat.log2_lt h0).mpr h
      omega
  have a := l _ h1
  have b := l _ h2
  show i.natAbs.log2 + j.natAbs.log2 < 1000000
  omega
theorem fitd_of {j : Int} (h : j.natAbs < 2 ^ 8999) : fitd j := by
  show j.natAbs.log2 < 9000
  by_cases h0 : j.natAbs = 0
  · rw [h0]; decide
  · have := (Nat.log2_lt h0).mpr h
    omega

/-! ### while -/
theorem whl_more {c : Env' → MH → Res Bool} {b : Env' → MH → Out} : ∀ {n : Nat} {ρ : Env'} {h : MH}, whlN c b n ρ h ≠ .stuck → whlN c b (n + 1) ρ h = whlN c b n ρ h
  | 0, ρ, h, e => absurd rfl e
  | n + 1, ρ, h, e => by
    have e' : ((c ρ h).out ρ fun t h => if t = true then (b ρ h).turn (whlN c b n) else .nx ρ h) ≠ .stuck := e
    show ((c ρ h).out ρ fun t h => if t = true then (b ρ h).turn (whlN c b (n + 1)) else .nx ρ h) = ((c ρ h).out ρ fun t h => if t = true then (b ρ h).turn (whlN c b n) else .nx ρ h)
    cases hc : c ρ h with
    | stuck => rfl
    | exn _ _ _ => rfl
    | ok t h1 =>
      rw [hc] at e'
      simp only [Res.out_ok] at e' ⊢
      cases t with
      | false => rfl
      | true =>
        rw [if_pos rfl] at e' ⊢
        rw [if_pos rfl]
        cases hb : b ρ h1 with
        | nx ρ2 h2 => rw [hb] at e'; exact whl_more e'
        | ct ρ2 h2 => rw [hb] at e'; exact whl_more e'
        | bk _ _ => rfl
        | rt _ _ => rfl
        | exn _ _ _ _ => rfl
        | stuck => rfl
theorem whl_le {c : Env' → MH → Res Bool} {b : Env' → MH → Out} {n : Nat} {ρ : Env'} {h : MH} (e : whlN c b n ρ h ≠ .stuck) : ∀ k, whlN c b (n + k) ρ h = whlN c b n ρ h
  | 0 => rfl
  | k + 1 => by
    have ih := whl_le e k
    rw [← Nat.add_assoc, whl_more (by rw [ih]; exact e), ih]
theorem whl_eq {c : Env' → MH → Res Bool} {b : Env' → MH → Out} {n : Nat} {ρ : Env'} {h : MH} {o : Out} (e : whlN c b n ρ h = o) (ho : o ≠ .stuck) : whlE c b ρ h = o := by
  have hn : whlN c b n ρ h ≠ .stuck := by rw [e]; exact ho
  unfold whlE
  have ex : ∃ n, whlN c b n ρ h ≠ .stuck := ⟨n, hn⟩
  rw [dif_pos ex]
  have hm := Classical.choose_spec ex
  generalize Classical.choose ex = m at hm ⊢
  rw [← e]
  rcases Nat.le_total m n with q | q
  · obtain ⟨k, rfl⟩ := Nat.exists_eq_add_of_le q
    exact (whl_le hm k).symm
  · obtain ⟨k, rfl⟩ := Nat.exists_eq_add_of_le q
    exact whl_le hn k
theorem whlN_step {c : Env' → MH → Res Bool} {b : Env' → MH → Out} {n : Nat} {ρ : Env'} {h : MH} : whlN c b (n + 1) ρ h = (c ρ h).out ρ fun t h => if t = true then (b ρ h).turn (whlN c b n) else .nx ρ h := rfl
/-! ### comprehensions, loops -/
theorem compL_nil {body : PV → MH → Res (Option PV)} {l : List (Nat × List PV)} {acc : List PV} {h : MH} (hc : chk l h) : compL body l [] acc h = .ok acc h := by
  unfold compL
  rw [if_pos hc]
def addO (acc : List PV) (o : Option PV) : List PV := match o with
  | none => acc
  | some y => acc ++ [y]
theorem compL_cons {body : PV → MH → Res (Option PV)} {l : List (Nat × List PV)} {x : PV} {xs acc : List PV} {h h1 : MH} {o : Option PV} (hc : chk l h) (hb : body x h = .ok o h1) : compL body l (x :: xs) acc h = compL body l xs (addO acc o) h1 := by
  conv => lhs; unfold compL
  rw [if_pos hc, hb]
  rfl
theorem compL_none {body : PV → MH → Res (Option PV)} {l : List (Nat × List PV)} {h : MH} (hc : chk l h) : ∀ {xs acc : List PV}, (∀ x ∈ xs, body x h = .ok none h) → compL body l xs acc h = .ok acc h
  | [], acc, _ => compL_nil hc
  | x :: xs, acc, hb => by
    rw [compL_cons hc (hb x List.mem_cons_self)]
    show compL body l xs acc h = _
    exact compL_none hc fun y hy => hb y (List.mem_cons_of_mem _ hy)
/-- each item gives one -/
theorem compL_map {body : PV → MH → Res (Option PV)} {l : List (Nat × List PV)} {h : MH} (hc : chk l h) {g : PV → PV} : ∀ {xs acc : List PV}, (∀ x ∈ xs, body x h = .ok (some (g x)) h) → compL body l xs acc h = .ok (acc ++ xs.map g) h
  | [], acc, _ => by rw [compL_nil hc]; simp
  | x :: xs, acc, hb => by
    rw [compL_cons hc (hb x List.mem_cons_self)]
    show compL body l xs (acc ++ [g x]) h = _
    rw [compL_map hc fun y hy => hb y (List.mem_cons_of_mem _ hy)]
    simp
theorem chk_nil {h : MH} : chk [] h := fun p hp => by cases hp
theorem forL_nil {body : PV → Env' → MH → Out} {l : List (Nat × List PV)} {ρ : Env'} {h : MH} (hc : chk l h) : forL body l [] ρ h = .nx ρ h := by
  unfold forL
  rw [if_pos hc]
theorem forL_cons {body : PV → Env' → MH → Out} {l : List (Nat × List PV)} {x : PV} {xs : List PV} {ρ : Env'} {h : MH} (hc : chk l h) : forL body l (x :: xs) ρ h = (body x ρ h).turn (forL body l xs) := by
  conv => lhs; unfold forL
  rw [if_pos hc]
theorem ixN_nat {n i : Nat} (h : i < n) : ixN n (i : Int) = some i := by
  unfold ixN
  rw [if_pos (by omega), if_pos (by omega)]
  rfl
theorem atI_nat {α : Type} {xs : List α} {i : Nat} (h : i < xs.length) : atI xs (i : Int) = some xs[i] := by
  unfold atI
  rw [ixN_nat h]
  exact List.getElem?_eq_getElem h

@[simp] theorem forL_nil0 {body : PV → Env' → MH → Out} {ρ : Env'} {h : MH} : forL body [] [] ρ h = .nx ρ h := forL_nil chk_nil
@[simp] theorem forL_cons0 {body : PV → Env' → MH → Out} {x : PV} {xs : List PV} {ρ : Env'} {h : MH} : forL body [] (x :: xs) ρ h = (body x ρ h).turn (forL body [] xs) := forL_cons chk_nil
/-- a call by names -/
theorem call_kw {P : Pg} {f : Str} {d : Fn} {n : Nat} {xs ys as : List PV} {ks : List Str} {h : MH} (hf : P.fns f = some d) (ha : argsOf d.ps xs ks ys = some as) (hl : as.length = d.ps.length) : call P (n + 1) f xs ks ys h = call P (n + 1) f as [] [] h := by
  rw [call_at hf ha, call_at hf (args_pos hl)]

section
variable {P : Pg} {cl : Calls} {elt : Ae} {g : Ag} {it : Ai} {ifs : Ao} {own : List (Str × Nat)} {ρ : Env'} {h h' : MH} {s : Src}
/-- a comprehension that takes none -/
theorem comp_none (hi : evi P cl it ρ h = .ok s h') (hc : chk s.1 h') (hb : ∀ x ∈ s.2, ∃ ρ', bindG g x (wipeP ρ (own.map (·.2))) h' = some ρ' ∧ evIfs P cl ifs ρ' h' = .ok false h') : ev P cl (.comp false elt g it ifs own) ρ h = .ok (.lst []) h' := by
  have e : ev P cl (.comp false elt g it ifs own) ρ h = (evi P cl it ρ h).bind fun s h => (compL (fun x h => Res.nox (match bindG g x (wipeP ρ (own.map (·.2))) h with
      | some ρ' => (evIfs P cl ifs ρ' h).bind fun b h => if b = true then (ev P cl elt ρ' h).bind fun y h => .ok (some y) h else .ok none h
      | none => .stuck)) s.1 s.2 [] h).bind fun xs h => if xs.length ≤ sizeLine then mkLst false xs h else .stuck := rfl
  rw [e, hi, Res.bind_ok, compL_none hc fun x hx => ?_]
  · rw [Res.bind_ok, if_pos (by rw [List.length_nil]; exact Nat.zero_le _)]
    rfl
  · obtain ⟨ρ', e1, e2⟩ := hb x hx
    rw [e1]
    dsimp only
    rw [e2, Res.bind_ok, if_neg Bool.false_ne_true]
    rfl
/-- a comprehension that takes all -/
theorem comp_map {f : PV → PV} (hi : evi P cl it ρ h = .ok s h') (hc : chk s.1 h') (hl : s.2.length ≤ sizeLine) (hb : ∀ x ∈ s.2, ∃ ρ', bindG g x (wipeP ρ (own.map (·.2))) h' = some ρ' ∧ evIfs P cl ifs ρ' h' = .ok true h' ∧ ev P cl elt ρ' h' = .ok (f x) h') : ev P cl (.comp false elt g it ifs own) ρ h = .ok (.lst (s.2.map f)) h' := by
  have e : ev P cl (.comp false elt g it ifs own) ρ h = (evi P cl it ρ h).bind fun s h => (compL (fun x h => Res.nox (match bindG g x (wipeP ρ (own.map (·.2))) h with
      | some ρ' => (evIfs P cl ifs ρ' h).bind fun b h => if b = true then (ev P cl elt ρ' h).bind fun y h => .ok (some y) h else .ok none h
      | none => .stuck)) s.1 s.2 [] h).bind fun xs h => if xs.length ≤ sizeLine then mkLst false xs h else .stuck := rfl
  rw [e, hi, Res.bind_ok, compL_map (g := f) hc fun x hx => ?_]
  · rw [Res.bind_ok, List.nil_append, if_pos (by rw [List.length_map]; exact hl)]
    rfl
  · obtain ⟨ρ', e1, e2, e3⟩ := hb x hx
    rw [e1]
    dsimp only
    rw [e2, Res.bind_ok, if_pos rfl, e3]
    rfl
end

theorem rng1 {P : Pg} {cl : Calls} {e : Ae} {ρ : Env'} {h h' : MH} {n : Int} (he : ev P cl e ρ h = .ok (.int n) h') (h1 : -(2 ^ 62) ≤ n ∧ n < 2 ^ 62) : evi P cl (.range1 e) ρ h = .ok ([], (List.range n.toNat).map fun (k : Nat) => PV.int (k : Int)) h' := by
  have e1 : evi P cl (.range1 e) ρ h = (ev P cl e ρ h).bind fun x h => match x with
    | .int j => if -(2 ^ 62) ≤ j ∧ j < 2 ^ 62 then .ok ([], (List.range j.toNat).map fun (k : Nat) => PV.int (k : Int)) h else .stuck
    | _ => .stuck := rfl
  rw [e1, he, Res.bind_ok]
  dsimp only
  rw [if_pos h1]
theorem rng2 {P : Pg} {cl : Calls} {a b : Ae} {ρ : Env'} {h h' h2 : MH} {i j : Int} (ha : ev P cl a ρ h = .ok (.int i) h') (hb : ev P cl b ρ h' = .ok (.int j) h2) (h1 : -(2 ^ 62) ≤ i ∧ i < 2 ^ 62 ∧ -(2 ^ 62) ≤ j ∧ j < 2 ^ 62) : evi P cl (.range2 a b) ρ h = .ok ([], (List.range (j - i).toNat).map fun (k : Nat) => PV.int (i + (k : Int))) h2 := by
  have e1 : evi P cl (.range2 a b) ρ h = (ev P cl a ρ h).bind fun x h => (ev P cl b ρ h).bind fun y h => match x, y with
    | .int i, .int j => if -(2 ^ 62) ≤ i ∧ i < 2 ^ 62 ∧ -(2 ^ 62) ≤ j ∧ j < 2 ^ 62 then .ok ([], (List.range (j - i).toNat).map fun (k : Nat) => PV.int (i + (k : Int))) h else .stuck
    | _, _ => .stuck := rfl
  rw [e1, ha, Res.bind_ok, hb, Res.bind_ok]
  dsimp only
  rw [if_pos h1]
theorem evi_ex {P : Pg} {cl : Calls} {e : Ae} {ρ : Env'} {h : MH} : evi P cl (.ex e) ρ h = (ev P cl e ρ h).bind fun x h => match src x h with
    | some s => .ok s h
    | none => .stuck := rfl
end Mx


set_option Elab.async false
set_option linter.all false
set_option maxRecDepth 100000
set_option maxHeartbeats 8000000
/-! The runs' equations. -/
namespace Mx
open PySem PySem.Spec PyProof.Rows L2
theorem q_ev_v {P : Pg} {cl : Calls} {i ρ h} : ev P cl (.v i) ρ h = match ρ[i]? with
    | some (some x) => .ok x h
    | _ => .stuck := Eq.trans rfl rfl
theorem q_ev_non {P : Pg} {cl : Calls} {u1 h} : ev P cl .non u1 h = .ok .non h := Eq.trans rfl rfl
theorem q_ev_bl {P : Pg} {cl : Calls} {b u1 h} : ev P cl (.bl b) u1 h = .ok (.bl b) h := Eq.trans rfl rfl
theorem q_ev_int {P : Pg} {cl : Calls} {i u1 h} : ev P cl (.int i) u1 h = .ok (.int i) h := Eq.trans rfl rfl
theorem q_ev_str {P : Pg} {cl : Calls} {x u1 h} : ev P cl (.str x) u1 h = .ok (.str x) h := Eq.trans rfl rfl
theorem q_ev_con {P : Pg} {cl : Calls} {x u1 h} : ev P cl (.con x) u1 h = match P.con x with
    | some v => .ok v h
    | none => .stuck := Eq.trans rfl rfl
theorem q_ev_tup {P : Pg} {cl : Calls} {es ρ h} : ev P cl (.tup es) ρ h = (evs P cl es ρ h).bind fun xs h => .ok (.tup xs) h := Eq.trans rfl rfl
theorem q_ev_lst {P : Pg} {cl : Calls} {r es ρ h} : ev P cl (.lst r es) ρ h = (evs P cl es ρ h).bind fun xs h => mkLst r xs h := Eq.trans rfl rfl
theorem q_ev_bin {P : Pg} {cl : Calls} {op r a b ρ h} : ev P cl (.bin op r a b) ρ h = (ev P cl a ρ h).bind fun x h => (ev P cl b ρ h).bind fun y h => binop op r x y h := Eq.trans rfl rfl
theorem q_ev_neg {P : Pg} {cl : Calls} {a ρ h} : ev P cl (.neg a) ρ h = (ev P cl a ρ h).bind fun x h => match x with
    | .int i => .ok (.int (-i)) h
    | _ => .stuck := Eq.trans rfl rfl
theorem q_ev_not {P : Pg} {cl : Calls} {a ρ h} : ev P cl (.not a) ρ h = (ev P cl a ρ h).bind fun x h => ofB ((truthy h x).map (!·)) h := Eq.trans rfl rfl
theorem q_ev_cmp {P : Pg} {cl : Calls} {op a b ρ h} : ev P cl (.cmp op a b) ρ h = (ev P cl a ρ h).bind fun x h => (ev P cl b ρ h).bind fun y h => ofB (cmpop op x y h) h := Eq.trans rfl rfl
theorem q_ev_chain {P : Pg} {cl : Calls} {op op' a b c ρ h} : ev P cl (.chain op op' a b c) ρ h = (ev P cl a ρ h).bind fun x h => (ev P cl b ρ h).bind fun y h => match cmpop op x y h with
    | some true => (ev P cl c ρ h).bind fun z h => ofB (cmpop op' y z h) h
    | some false => .ok (.bl false) h
    | none => .stuck := Eq.trans rfl rfl
theorem q_ev_and {P : Pg} {cl : Calls} {es ρ h} : ev P cl (.and es) ρ h = evAnd P cl es ρ h := Eq.trans rfl rfl
theorem q_ev_or {P : Pg} {cl : Calls} {es ρ h} : ev P cl (.or es) ρ h = evOr P cl es ρ h := Eq.trans rfl rfl
theorem q_ev_ifx {P : Pg} {cl : Calls} {c a b ρ h} : ev P cl (.ifx c a b) ρ h = (ev P cl c ρ h).bind fun x h => match truthy h x with
    | some true => ev P cl a ρ h
    | some false => ev P cl b ρ h
    | none => .stuck := Eq.trans rfl rfl
theorem q_ev_ix {P : Pg} {cl : Calls} {a i ρ h} : ev P cl (.ix a i) ρ h = (ev P cl a ρ h).bind fun x h => (ev P cl i ρ h).bind fun y h => ixop x y h := Eq.trans rfl rfl
theorem q_ev_sl {P : Pg} {cl : Calls} {r a lo hi ρ h} : ev P cl (.sl r a lo hi) ρ h = (ev P cl a ρ h).bind fun x h => (evo P cl lo ρ h).bind fun l h => (evo P cl hi ρ h).bind fun u h => slop r x l u h := Eq.trans rfl rfl
theorem q_ev_call {P : Pg} {cl : Calls} {f es ks kes ρ h} : ev P cl (.call f es ks kes) ρ h = (evs P cl es ρ h).bind fun xs h => (evs P cl kes ρ h).bind fun ys h => cl f xs ks ys h := Eq.trans rfl rfl
theorem q_ev_blt {P : Pg} {cl : Calls} {f r es ρ h} : ev P cl (.blt f r es) ρ h = (evs P cl es ρ h).bind fun xs h => bltop f r xs h := Eq.trans rfl rfl
theorem q_ev_isi {P : Pg} {cl : Calls} {a ts ρ h} : ev P cl (.isi a ts) ρ h = (ev P cl a ρ h).bind fun x h => ofB (isiop x ts h) h := Eq.trans rfl rfl
theorem q_ev_met {P : Pg} {cl : Calls} {m o es ρ h} : ev P cl (.met m o es) ρ h = (ev P cl o ρ h).bind fun x h => if metok m x h = true then (evs P cl es ρ h).bind fun xs h => metop m x xs h else .stuck := Eq.trans rfl rfl
theorem q_ev_comp {P : Pg} {cl : Calls} {r elt g it ifs own ρ h} : ev P cl (.comp r elt g it ifs own) ρ h = (evi P cl it ρ h).bind fun s h => (compL (fun x h => Res.nox (match bindG g x (wipeP ρ (own.map (·.2))) h with
      | some ρ' => (evIfs P cl ifs ρ' h).bind fun b h => if b = true then (ev P cl elt ρ' h).bind fun y h => .ok (some y) h else .ok none h
      | none => .stuck)) s.1 s.2 [] h).bind fun xs h => if xs.length ≤ sizeLine then mkLst r xs h else .stuck := Eq.trans rfl rfl
theorem q_ev_val {P : Pg} {cl : Calls} {i ρ h} : ev P cl (.val i) ρ h = match ρ[i]? with
    | some (some (.exn c v)) => if P.exc.contains c = true then .ok v h else .stuck
    | _ => .stuck := Eq.trans rfl rfl
theorem q_evs_nil {P : Pg} {cl : Calls} {u1 h} : evs P cl .nil u1 h = .ok [] h := Eq.trans rfl rfl
theorem q_evs_cons {P : Pg} {cl : Calls} {e es ρ h} : evs P cl (.cons e es) ρ h = (ev P cl e ρ h).bind fun x h => (evs P cl es ρ h).bind fun xs h => .ok (x :: xs) h := Eq.trans rfl rfl
theorem q_evAnd_nil {P : Pg} {cl : Calls} {u1 u2} : evAnd P cl .nil u1 u2 = .stuck := Eq.trans rfl rfl
theorem q_evAnd_cons {P : Pg} {cl : Calls} {e ρ h} : evAnd P cl (.cons e .nil) ρ h = ev P cl e ρ h := Eq.trans rfl rfl
theorem q_evAnd_cons2 {P : Pg} {cl : Calls} {e e2 es ρ h} : evAnd P cl (.cons e (.cons e2 es)) ρ h = (ev P cl e ρ h).bind fun x h => match truthy h x with
    | some true => evAnd P cl (.cons e2 es) ρ h
    | some false => .ok x h
    | none => .stuck := Eq.trans rfl rfl
theorem q_evOr_nil {P : Pg} {cl : Calls} {u1 u2} : evOr P cl .nil u1 u2 = .stuck := Eq.trans rfl rfl
theorem q_evOr_cons {P : Pg} {cl : Calls} {e ρ h} : evOr P cl (.cons e .nil) ρ h = ev P cl e ρ h := Eq.trans rfl rfl
theorem q_evOr_cons2 {P : Pg} {cl : Calls} {e e2 es ρ h} : evOr P cl (.cons e (.cons e2 es)) ρ h = (ev P cl e ρ h).bind fun x h => match truthy h x with
    | some true => .ok x h
    | some false => evOr P cl (.cons e2 es) ρ h
    | none => .stuck := Eq.trans rfl rfl
theorem q_evIfs_none {P : Pg} {cl : Calls} {u1 h} : evIfs P cl .none u1 h = .ok true h := Eq.trans rfl rfl
theorem q_evIfs_some {P : Pg} {cl : Calls} {e ρ h} : evIfs P cl (.some e) ρ h = (ev P cl e ρ h).bind fun x h => match truthy h x with
    | some b => .ok b h
    | none => .stuck := Eq.trans rfl rfl
theorem q_evo_none {P : Pg} {cl : Calls} {u1 h} : evo P cl .none u1 h = .ok none h := Eq.trans rfl rfl
theorem q_evo_some {P : Pg} {cl : Calls} {e ρ h} : evo P cl (.some e) ρ h = (ev P cl e ρ h).bind fun x h => match x with
    | .int i => .ok (some i) h
    | _ => .stuck := Eq.trans rfl rfl
theorem q_evi_ex {P : Pg} {cl : Calls} {e ρ h} : evi P cl (.ex e) ρ h = (ev P cl e ρ h).bind fun x h => match src x h with
    | some s => .ok s h
    | none => .stuck := Eq.trans rfl rfl
theorem q_evi_range1 {P : Pg} {cl : Calls} {e ρ h} : evi P cl (.range1 e) ρ h = (ev P cl e ρ h).bind fun x h => match x with
    | .int j => if -(2 ^ 62) ≤ j ∧ j < 2 ^ 62 then .ok ([], (List.range j.toNat).map fun (k : Nat) => PV.int (k : Int)) h else .stuck
    | _ => .stuck := Eq.trans rfl rfl
theorem q_evi_range2 {P : Pg} {cl : Calls} {a b ρ h} : evi P cl (.range2 a b) ρ h = (ev P cl a ρ h).bind fun x h => (ev P cl b ρ h).bind fun y h => match x, y with
    | .int i, .int j => if -(2 ^ 62) ≤ i ∧ i < 2 ^ 62 ∧ -(2 ^ 62) ≤ j ∧ j < 2 ^ 62 then .ok ([], (List.range (j - i).toNat).map fun (k : Nat) => PV.int (i + (k : Int))) h else .stuck
    | _, _ => .stuck := Eq.trans rfl rfl
theorem q_run1_ex {P : Pg} {cl : Calls} {e ρ h} : run1 P cl (.ex e) ρ h = (ev P cl e ρ h).out ρ fun _ h => .nx ρ h := Eq.trans rfl rfl
theorem q_run1_set {P : Pg} {cl : Calls} {g e ρ h} : run1 P cl (.set g e) ρ h = (ev P cl e ρ h).out ρ fun x h => match bindG g x ρ h with
    | some ρ' => .nx ρ' h
    | none => .stuck := Eq.trans rfl rfl
theorem q_run1_put {P : Pg} {cl : Calls} {o i e ρ h} : run1 P cl (.put o i e) ρ h = (ev P cl e ρ h).out ρ fun x h => (ev P cl o ρ h).out ρ fun a h => (ev P cl i ρ h).out ρ fun k h => match putop a k x h with
    | some h => .nx ρ h
    | none => .stuck := Eq.trans rfl rfl
theorem q_run1_ite {P : Pg} {cl : Calls} {c a b ρ h} : run1 P cl (.ite c a b) ρ h = (tst P cl c ρ h).out ρ fun t h => if t = true then runs P cl a ρ h else runs P cl b ρ h := Eq.trans rfl rfl
theorem q_run1_whl {P : Pg} {cl : Calls} {c b ρ h} : run1 P cl (.whl c b) ρ h = whlE (tst P cl c) (runs P cl b) ρ h := Eq.trans rfl rfl
theorem q_run1_for {P : Pg} {cl : Calls} {g it b ρ h} : run1 P cl (.for g it b) ρ h = (evi P cl it ρ h).out ρ fun s h => forL (fun x ρ h => match bindG g x ρ h with
    | some ρ' => runs P cl b ρ' h
    | none => .stuck) s.1 s.2 ρ h := Eq.trans rfl rfl
theorem q_run1_ret {P : Pg} {cl : Calls} {e ρ h} : run1 P cl (.ret e) ρ h = (ev P cl e ρ h).out ρ fun x h => .rt x h := Eq.trans rfl rfl
theorem q_run1_retN {P : Pg} {cl : Calls} {u1 h} : run1 P cl .retN u1 h = .rt .non h := Eq.trans rfl rfl
theorem q_run1_rais {P : Pg} {cl : Calls} {c e w3 ρ h} : run1 P cl (.rais c e w3) ρ h = (ev P cl e ρ h).out ρ fun x h => .exn c x ρ h := Eq.trans rfl rfl
theorem q_run1_try {P : Pg} {cl : Calls} {b hs ρ h} : run1 P cl (.try b hs) ρ h = match runs P cl b ρ h with
    | .exn c v ρ h => if P.exc.contains c = true then runH P cl hs c v ρ h else .stuck
    | o => o := Eq.trans rfl rfl
theorem q_run1_brk {P : Pg} {cl : Calls} {ρ h} : run1 P cl .brk ρ h = .bk ρ h := Eq.trans rfl rfl
theorem q_run1_cnt {P : Pg} {cl : Calls} {ρ h} : run1 P cl .cnt ρ h = .ct ρ h := Eq.trans rfl rfl
theorem q_run1_pas {P : Pg} {cl : Calls} {ρ h} : run1 P cl .pas ρ h = .nx ρ h := Eq.trans rfl rfl
theorem q_runs_nil {P : Pg} {cl : Calls} {ρ h} : runs P cl .nil ρ h = .nx ρ h := Eq.trans rfl rfl
theorem q_runs_cons {P : Pg} {cl : Calls} {s ss ρ h} : runs P cl (.cons s ss) ρ h = (run1 P cl s ρ h).seq (runs P cl ss) := Eq.trans rfl rfl
theorem q_runH_nil {P : Pg} {cl : Calls} {c v ρ h} : runH P cl .nil c v ρ h = .exn c v ρ h := Eq.trans rfl rfl
theorem q_runH_cons {P : Pg} {cl : Calls} {t n b hs c v ρ h} : runH P cl (.cons t n b hs) c v ρ h = if subT P.exc c t = true then match n with
      | none => (runs P cl b ρ h).nox
      | some i => if i < ρ.length then (runs P cl b (ρ.set i (some (.exn c v))) h).gone i else .stuck
    else runH P cl hs c v ρ h := Eq.trans rfl rfl
end Mx


set_option Elab.async false
set_option linter.all false
set_option maxRecDepth 100000
set_option maxHeartbeats 0
namespace Mx.K01
open PySem PySem.Spec PyProof.Rows L2 Mx
def top (i : Nat) : Stmt := PySem.Challenge.pw_rankedwishes_k01_whole_numbers.main.body.getD i (.Pass ⟨0, 0, 0, 0⟩)
def f_is_integer : Fn := ⟨1, ["value"], (.cons (.ret (.and (.cons (.isi (.v 0) ["int"]) (.cons (.not (.isi (.v 0) ["bool"])) .nil)))) .nil), false⟩
def f_is_pair : Fn := ⟨1, ["value"], (.cons (.ret (.and (.cons (.isi (.v 0) ["tuple"]) (.cons (.cmp .eq (.blt .len false (.cons (.v 0) .nil)) (.int 2)) .nil)))) .nil), false⟩
def f_lowest : Fn := ⟨3, ["top", "bottom"], (.cons (.set (.nm 2) (.blt .gcd false (.cons (.v 0) (.cons (.v 1) .nil)))) (.cons (.ite (.cmp .lt (.v 1) (.int 0)) (.cons (.set (.nm 2) (.neg (.v 2))) .nil) .nil) (.cons (.ret (.tup (.cons (.bin .fdiv false (.v 0) (.v 2)) (.cons (.bin .fdiv false (.v 1) (.v 2)) .nil)))) .nil))), false⟩
def f_sum_of_two : Fn := ⟨2, ["a", "b"], (.cons (.ite (.and (.cons (.cmp .eq (.ix (.v 0) (.int 1)) (.int 1)) (.cons (.cmp .eq (.ix (.v 1) (.int 1)) (.int 1)) .nil))) (.cons (.ret (.tup (.cons (.bin .add false (.ix (.v 0) (.int 0)) (.ix (.v 1) (.int 0))) (.cons (.int 1) .nil)))) .nil) .nil) (.cons (.ret (.call "lowest" (.cons (.bin .add false (.bin .mul false (.ix (.v 0) (.int 0)) (.ix (.v 1) (.int 1))) (.bin .mul false (.ix (.v 1) (.int 0)) (.ix (.v 0) (.int 1)))) (.cons (.bin .mul false (.ix (.v 0) (.int 1)) (.ix (.v 1) (.int 1))) .nil)) [] .nil)) .nil)), false⟩
def f_opposite : Fn := ⟨1, ["a"], (.cons (.ret (.tup (.cons (.neg (.ix (.v 0) (.int 0))) (.cons (.ix (.v 0) (.int 1)) .nil)))) .nil), false⟩
def f_difference : Fn := ⟨2, ["a", "b"], (.cons (.ret (.call "sum_of_two" (.cons (.v 0) (.cons (.call "opposite" (.cons (.v 1) .nil) [] .nil) .nil)) [] .nil)) .nil), false⟩
def f_product : Fn := ⟨2, ["a", "b"], (.cons (.ite (.and (.cons (.cmp .eq (.ix (.v 0) (.int 1)) (.int 1)) (.cons (.cmp .eq (.ix (.v 1) (.int 1)) (.int 1)) .nil))) (.cons (.ret (.tup (.cons (.bin .mul false (.ix (.v 0) (.int 0)) (.ix (.v 1) (.int 0))) (.cons (.int 1) .nil)))) .nil) .nil) (.cons (.ret (.call "lowest" (.cons (.bin .mul false (.ix (.v 0) (.int 0)) (.ix (.v 1) (.int 0))) (.cons (.bin .mul false (.ix (.v 0) (.int 1)) (.ix (.v 1) (.int 1))) .nil)) [] .nil)) .nil)), false⟩
def f_quotient : Fn := ⟨2, ["a", "b"], (.cons (.ret (.call "lowest" (.cons (.bin .mul false (.ix (.v 0) (.int 0)) (.ix (.v 1) (.int 1))) (.cons (.bin .mul false (.ix (.v 0) (.int 1)) (.ix (.v 1) (.int 0))) .nil)) [] .nil)) .nil), false⟩
def f_is_less : Fn := ⟨2, ["a", "b"], (.cons (.ret (.cmp .lt (.bin .mul false (.ix (.v 0) (.int 0)) (.ix (.v 1) (.int 1))) (.bin .mul false (.ix (.v 1) (.int 0)) (.ix (.v 0) (.int 1))))) .nil), false⟩
def f_size_of : Fn := ⟨1, ["a"], (.cons (.ret (.tup (.cons (.blt .abs false (.cons (.ix (.v 0) (.int 0)) .nil)) (.cons (.ix (.v 0) (.int 1)) .nil)))) .nil), false⟩
def f_is_number : Fn := ⟨1, ["told"], (.cons (.ite (.or (.cons (.not (.call "is_pair" (.cons (.v 0) .nil) [] .nil)) (.cons (.not (.call "is_integer" (.cons (.ix (.v 0) (.int 0)) .nil) [] .nil)) (.cons (.not (.call "is_integer" (.cons (.ix (.v 0) (.int 1)) .nil) [] .nil)) (.cons (.cmp .lt (.ix (.v 0) (.int 1)) (.int 1)) .nil))))) (.cons (.ret (.bl false)) .nil) .nil) (.cons (.ret (.cmp .eq (.call "lowest" (.cons (.ix (.v 0) (.int 0)) (.cons (.ix (.v 0) (.int 1)) .nil)) [] .nil) (.v 0))) .nil)), false⟩
def l_check_numbers_1 : As := .for (.nm 1) (.ex (.v 0)) (.cons (.ite (.not (.call "is_number" (.cons (.v 1) .nil) [] .nil)) (.cons (.rais "InvalidNumber" (.v 1) false) .nil) .nil) .nil)
def f_check_numbers : Fn := ⟨2, ["row"], (.cons l_check_numbers_1 .nil), false⟩
def f_number : Fn := ⟨2, ["top", "bottom"], (.cons (.ite (.cmp .eq (.v 1) (.int 0)) (.cons (.rais "DividedByZero" (.v 0) false) .nil) .nil) (.cons (.ret (.call "lowest" (.cons (.v 0) (.cons (.v 1) .nil)) [] .nil)) .nil)), false⟩
def f_plus : Fn := ⟨2, ["a", "b"], (.cons (.ex (.call "check_numbers" (.cons (.tup (.cons (.v 0) (.cons (.v 1) .nil))) .nil) [] .nil)) (.cons (.ret (.call "sum_of_two" (.cons (.v 0) (.cons (.v 1) .nil)) [] .nil)) .nil)), false⟩
def f_minus : Fn := ⟨2, ["a", "b"], (.cons (.ex (.call "check_numbers" (.cons (.tup (.cons (.v 0) (.cons (.v 1) .nil))) .nil) [] .nil)) (.cons (.ret (.call "difference" (.cons (.v 0) (.cons (.v 1) .nil)) [] .nil)) .nil)), false⟩
def f_times : Fn := ⟨2, ["a", "b"], (.cons (.ex (.call "check_numbers" (.cons (.tup (.cons (.v 0) (.cons (.v 1) .nil))) .nil) [] .nil)) (.cons (.ret (.call "product" (.cons (.v 0) (.cons (.v 1) .nil)) [] .nil)) .nil)), false⟩
def f_by : Fn := ⟨2, ["a", "b"], (.cons (.ex (.call "check_numbers" (.cons (.tup (.cons (.v 0) (.cons (.v 1) .nil))) .nil) [] .nil)) (.cons (.ite (.cmp .eq (.v 1) (.con "ZERO")) (.cons (.rais "DividedByZero" (.v 0) false) .nil) .nil) (.cons (.ret (.call "quotient" (.cons (.v 0) (.cons (.v 1) .nil)) [] .nil)) .nil))), false⟩
def f_size : Fn := ⟨1, ["a"], (.cons (.ex (.call "check_numbers" (.cons (.tup (.cons (.v 0) .nil)) .nil) [] .nil)) (.cons (.ret (.call "size_of" (.cons (.v 0) .nil) [] .nil)) .nil)), false⟩
def f_sign : Fn := ⟨1, ["a"], (.cons (.ex (.call "check_numbers" (.cons (.tup (.cons (.v 0) .nil)) .nil) [] .nil)) (.cons (.ite (.cmp .eq (.ix (.v 0) (.int 0)) (.int 0)) (.cons (.ret (.int 0)) .nil) .nil) (.cons (.ret (.ifx (.cmp .gt (.ix (.v 0) (.int 0)) (.int 0)) (.int 1) (.neg (.int 1)))) .nil))), false⟩
def f_below : Fn := ⟨2, ["a", "b"], (.cons (.ex (.call "check_numbers" (.cons (.tup (.cons (.v 0) (.cons (.v 1) .nil))) .nil) [] .nil)) (.cons (.ret (.call "is_less" (.cons (.v 0) (.cons (.v 1) .nil)) [] .nil)) .nil)), false⟩
def f_rounded : Fn := ⟨1, ["a"], (.cons (.ex (.call "check_numbers" (.cons (.tup (.cons (.v 0) .nil)) .nil) [] .nil)) (.cons (.ret (.bin .fdiv false (.bin .add false (.bin .mul false (.int 2) (.ix (.v 0) (.int 0))) (.ix (.v 0) (.int 1))) (.bin .mul false (.int 2) (.ix (.v 0) (.int 1))))) .nil)), false⟩
def f_law_deck : Fn := ⟨4, ["script", "k"], (.cons (.set (.nm 2) (.int 0)) (.cons (.ite (.cmp .lt (.v 1) (.blt .len false (.cons (.v 0) .nil))) (.cons (.set (.nm 2) (.ix (.v 0) (.v 1))) .nil) .nil) (.cons (.set (.nm 3) (.bin .mod false (.blt .int false (.cons (.bin .add false (.bin .add false (.v 2) (.bin .mul false (.int 7919) (.v 1))) (.int 104729)) .nil)) (.int 2305843009213693951))) (.cons (.set (.nm 3) (.bin .mod false (.blt .int false (.cons (.bin .add false (.bin .add false (.bin .mul false (.bin .mul false (.v 3) (.v 3)) (.v 3)) (.bin .mul false (.int 31) (.v 1))) (.int 7)) .nil)) (.int 2305843009213693951))) (.cons (.ite (.cmp .lt (.v 2) (.bin .pow false (.int 10) (.int 18))) (.cons (.ret (.lst true (.cons (.int 0) (.cons (.v 3) .nil)))) .nil) .nil) (.cons (.ret (.lst true (.cons (.bin .sub false (.v 2) (.bin .pow false (.int 10) (.int 18))) (.cons (.v 3) .nil)))) .nil)))))), true⟩
def f_law_take : Fn := ⟨3, ["deck", "many"], (.cons (.ite (.cmp .gt (.ix (.v 0) (.int 0)) (.int 0)) (.cons (.set (.nm 2) (.bin .mod false (.blt .int false (.cons (.ix (.v 0) (.int 0)) .nil)) (.v 1))) (.cons (.put (.v 0) (.int 0) (.bin .fdiv false (.ix (.v 0) (.int 0)) (.v 1))) (.cons (.ret (.v 2)) .nil))) .nil) (.cons (.put (.v 0) (.int 1) (.bin .mod false (.blt .int false (.cons (.bin .add false (.bin .mul false (.ix (.v 0) (.int 1)) (.int 6364136223846793005)) (.int 1442695040888963407)) .nil)) (.bin .pow false (.int 2) (.int 64)))) (.cons (.ret (.bin .mod false (.bin .fdiv false (.ix (.v 0) (.int 1)) (.bin .pow false (.int 2) (.int 33))) (.v 1))) .nil))), false⟩
def w_law_gcd_1 : As := .whl (.cmp .ne (.v 1) (.int 0)) (.cons (.set (.tp (.cons (.nm 0) (.cons (.nm 1) .nil))) (.tup (.cons (.v 1) (.cons (.bin .mod false (.blt .int false (.cons (.v 0) .nil)) (.v 1)) .nil)))) .nil)
def f_law_gcd : Fn := ⟨2, ["m", "n"], (.cons w_law_gcd_1 (.cons (.ret (.v 0)) .nil)), false⟩
def f_law_pair : Fn := ⟨3, ["upper", "lower"], (.cons (.set (.nm 2) (.call "_law_gcd" (.cons (.blt .abs false (.cons (.v 0) .nil)) (.cons (.blt .abs false (.cons (.v 1) .nil)) .nil)) [] .nil)) (.cons (.ite (.cmp .lt (.v 1) (.int 0)) (.cons (.set (.nm 2) (.neg (.v 2))) .nil) .nil) (.cons (.ret (.tup (.cons (.bin .fdiv false (.v 0) (.v 2)) (.cons (.bin .fdiv false (.v 1) (.v 2)) .nil)))) .nil))), false⟩
def f_law_plus : Fn := ⟨2, ["m", "n"], (.cons (.ret (.call "_law_pair" (.cons (.bin .add false (.bin .mul false (.ix (.v 0) (.int 0)) (.ix (.v 1) (.int 1))) (.bin .mul false (.ix (.v 1) (.int 0)) (.ix (.v 0) (.int 1)))) (.cons (.bin .mul false (.ix (.v 0) (.int 1)) (.ix (.v 1) (.int 1))) .nil)) [] .nil)) .nil), false⟩
def f_law_times : Fn := ⟨2, ["m", "n"], (.cons (.ret (.call "_law_pair" (.cons (.bin .mul false (.ix (.v 0) (.int 0)) (.ix (.v 1) (.int 0))) (.cons (.bin .mul false (.ix (.v 0) (.int 1)) (.ix (.v 1) (.int 1))) .nil)) [] .nil)) .nil), false⟩
def f_law_less : Fn := ⟨2, ["m", "n"], (.cons (.ret (.cmp .lt (.bin .sub false (.bin .mul false (.ix (.v 0) (.int 0)) (.ix (.v 1) (.int 1))) (.bin .mul false (.ix (.v 1) (.int 0)) (.ix (.v 0) (.int 1)))) (.int 0))) .nil), false⟩
def c_law_same_1 : Ae := .comp false (.v 2) (.nm 2) (.range1 (.blt .len false (.cons (.v 1) .nil))) (.some (.not (.call "_law_same" (.cons (.ix (.v 0) (.v 2)) (.cons (.ix (.v 1) (.v 2)) .nil)) [] .nil))) [("k", 2)]
def f_law_same : Fn := ⟨3, ["found", "due"], (.cons (.ite (.isi (.v 1) ["tuple", "list"]) (.cons (.ite (.or (.cons (.cmp .ne (.isi (.v 0) ["tuple"]) (.isi (.v 1) ["tuple"])) (.cons (.cmp .ne (.isi (.v 0) ["list"]) (.isi (.v 1) ["list"])) .nil))) (.cons (.ret (.bl false)) .nil) .nil) (.cons (.ite (.cmp .ne (.blt .len false (.cons (.v 0) .nil)) (.blt .len false (.cons (.v 1) .nil))) (.cons (.ret (.bl false)) .nil) .nil) (.cons (.ret (.cmp .eq c_law_same_1 (.lst false .nil))) .nil))) .nil) (.cons (.ite (.cmp .isN (.v 1) .non) (.cons (.ret (.cmp .isN (.v 0) .non)) .nil) .nil) (.cons (.ite (.isi (.v 1) ["str"]) (.cons (.ret (.and (.cons (.isi (.v 0) ["str"]) (.cons (.cmp .eq (.v 0) (.v 1)) .nil)))) .nil) .nil) (.cons (.ite (.or (.cons (.isi (.v 1) ["bool"]) (.cons (.isi (.v 0) ["bool"]) .nil))) (.cons (.ret (.and (.cons (.isi (.v 1) ["bool"]) (.cons (.isi (.v 0) ["bool"]) (.cons (.cmp .eq (.v 0) (.v 1)) .nil))))) .nil) .nil) (.cons (.ret (.and (.cons (.isi (.v 0) ["int"]) (.cons (.cmp .eq (.v 0) (.v 1)) .nil)))) .nil))))), false⟩
def f_law_integer : Fn := ⟨4, ["deck"], (.cons (.set (.nm 1) (.call "_law_take" (.cons (.v 0) (.cons (.bin .pow false (.int 10) (.int 6)) .nil)) [] .nil)) (.cons (.set (.nm 2) (.bin .add false (.int 1) (.call "_law_take" (.cons (.v 0) (.cons (.bin .pow false (.int 10) (.int 9)) .nil)) [] .nil))) (.cons (.set (.nm 3) (.ix (.lst false (.cons (.int 0) (.cons (.v 1) (.cons (.bin .fdiv false (.v 1) (.bin .pow false (.int 10) (.int 5))) (.cons (.bin .pow false (.v 2) (.int 3)) (.cons (.bin .add false (.bin .pow false (.v 2) (.int 34)) (.v 1)) (.cons (.int 1) (.cons (.int 2) .nil)))))))) (.call "_law_take" (.cons (.v 0) (.cons (.int 7) .nil)) [] .nil))) (.cons (.ret (.ix (.lst false (.cons (.v 3) (.cons (.neg (.v 3)) .nil))) (.call "_law_take" (.cons (.v 0) (.cons (.int 2) .nil)) [] .nil))) .nil)))), false⟩
def f_law_couple : Fn := ⟨5, ["deck"], (.cons (.set (.tp (.cons (.nm 1) (.cons (.nm 2) .nil))) (.tup (.cons (.call "_law_integer" (.cons (.v 0) .nil) [] .nil) (.cons (.call "_law_integer" (.cons (.v 0) .nil) [] .nil) .nil)))) (.cons (.set (.nm 3) (.call "_law_take" (.cons (.v 0) (.cons (.int 4) .nil)) [] .nil)) (.cons (.ite (.or (.cons (.cmp .eq (.v 3) (.int 0)) (.cons (.cmp .eq (.v 2) (.int 0)) .nil))) (.cons (.ret (.tup (.cons (.v 1) (.cons (.v 2) .nil)))) .nil) .nil) (.cons (.ite (.cmp .eq (.v 3) (.int 1)) (.cons (.set (.nm 4) (.bin .add false (.int 2) (.call "_law_take" (.cons (.v 0) (.cons (.int 30) .nil)) [] .nil))) (.cons (.ret (.tup (.cons (.bin .mul false (.v 1) (.v 4)) (.cons (.bin .mul false (.blt .abs false (.cons (.v 2) .nil)) (.v 4)) .nil)))) .nil)) .nil) (.cons (.ret (.call "_law_pair" (.cons (.v 1) (.cons (.v 2) .nil)) [] .nil)) .nil))))), false⟩
def f_law_own : Fn := ⟨3, ["deck"], (.cons (.set (.tp (.cons (.nm 1) (.cons (.nm 2) .nil))) (.tup (.cons (.call "_law_integer" (.cons (.v 0) .nil) [] .nil) (.cons (.call "_law_integer" (.cons (.v 0) .nil) [] .nil) .nil)))) (.cons (.ite (.cmp .eq (.call "_law_take" (.cons (.v 0) (.cons (.int 3) .nil)) [] .nil) (.int 0)) (.cons (.set (.nm 2) (.int 2)) .nil) .nil) (.cons (.ret (.call "_law_pair" (.cons (.v 1) (.cons (.bin .add false (.v 2) (.blt .int false (.cons (.cmp .eq (.v 2) (.int 0)) .nil))) .nil)) [] .nil)) .nil))), false⟩
def f_law_is : Fn := ⟨1, ["pair"], (.cons (.ret (.and (.cons (.cmp .gt (.ix (.v 0) (.int 1)) (.int 0)) (.cons (.cmp .eq (.call "_law_gcd" (.cons (.blt .abs false (.cons (.ix (.v 0) (.int 0)) .nil)) (.cons (.ix (.v 0) (.int 1)) .nil)) [] .nil) (.int 1)) .nil)))) .nil), false⟩
def f_law_divided : Fn := ⟨5, ["door", "m", "named"], (.cons (.set (.nm 3) (.lst false (.cons (.str "") (.cons .non .nil)))) (.cons (.try (.cons (.ite (.cmp .eq (.v 0) (.int 0)) (.cons (.set (.nm 3) (.lst false (.cons (.str "none") (.cons (.ifx (.v 2) (.call "number" .nil ["bottom", "top"] (.cons (.int 0) (.cons (.ix (.v 1) (.int 0)) .nil))) (.call "number" (.cons (.ix (.v 1) (.int 0)) (.cons (.int 0) .nil)) [] .nil)) .nil)))) .nil) (.cons (.set (.nm 3) (.lst false (.cons (.str "none") (.cons (.ifx (.v 2) (.call "by" .nil ["b", "a"] (.cons (.tup (.cons (.int 0) (.cons (.int 1) .nil))) (.cons (.v 1) .nil))) (.call "by" (.cons (.v 1) (.cons (.tup (.cons (.int 0) (.cons (.int 1) .nil))) .nil)) [] .nil)) .nil)))) .nil)) .nil) (.cons "InvalidNumber" (some 4) (.cons (.set (.nm 3) (.lst false (.cons (.str "number") (.cons (.val 4) .nil)))) .nil) (.cons "DividedByZero" (some 4) (.cons (.set (.nm 3) (.lst false (.cons (.str "zero") (.cons (.val 4) .nil)))) .nil) .nil))) (.cons (.ret (.v 3)) .nil))), false⟩
def f_law_sums_right : Fn := ⟨3, ["m", "n"], (.cons (.set (.nm 2) (.tup (.cons (.neg (.ix (.v 1) (.int 0))) (.cons (.ix (.v 1) (.int 1)) .nil)))) (.cons (.ite (.not (.call "_law_same" (.cons (.lst false (.cons (.call "plus" (.cons (.v 0) (.cons (.v 1) .nil)) [] .nil) (.cons (.call "plus" .nil ["b", "a"] (.cons (.v 1) (.cons (.v 0) .nil))) .nil))) (.cons (.bin .mul false (.lst false (.cons (.call "_law_plus" (.cons (.v 0) (.cons (.v 1) .nil)) [] .nil) .nil)) (.int 2)) .nil)) [] .nil)) (.cons (.ret (.bl false)) .nil) .nil) (.cons (.ite (.not (.call "_law_same" (.cons (.lst false (.cons (.call "minus" (.cons (.v 0) (.cons (.v 1) .nil)) [] .nil) (.cons (.call "minus" .nil ["b", "a"] (.cons (.v 1) (.cons (.v 0) .nil))) .nil))) (.cons (.bin .mul false (.lst false (.cons (.call "_law_plus" (.cons (.v 0) (.cons (.v 2) .nil)) [] .nil) .nil)) (.int 2)) .nil)) [] .nil)) (.cons (.ret (.bl false)) .nil) .nil) (.cons (.ite (.not (.call "_law_same" (.cons (.lst false (.cons (.call "times" (.cons (.v 0) (.cons (.v 1) .nil)) [] .nil) (.cons (.call "times" .nil ["b", "a"] (.cons (.v 1) (.cons (.v 0) .nil))) .nil))) (.cons (.bin .mul false (.lst false (.cons (.call "_law_times" (.cons (.v 0) (.cons (.v 1) .nil)) [] .nil) .nil)) (.int 2)) .nil)) [] .nil)) (.cons (.ret (.bl false)) .nil) .nil) (.cons (.ite (.and (.cons (.cmp .ne (.ix (.v 1) (.int 0)) (.int 0)) (.cons (.not (.call "_law_same" (.cons (.lst false (.cons (.call "by" (.cons (.v 0) (.cons (.v 1) .nil)) [] .nil) (.cons (.call "by" .nil ["b", "a"] (.cons (.v 1) (.cons (.v 0) .nil))) .nil))) (.cons (.bin .mul false (.lst false (.cons (.call "_law_pair" (.cons (.bin .mul false (.ix (.v 0) (.int 0)) (.ix (.v 1) (.int 1))) (.cons (.bin .mul false (.ix (.v 0) (.int 1)) (.ix (.v 1) (.int 0))) .nil)) [] .nil) .nil)) (.int 2)) .nil)) [] .nil)) .nil))) (.cons (.ret (.bl false)) .nil) .nil) (.cons (.ret (.call "_law_same" (.cons (.lst false (.cons (.call "below" (.cons (.v 0) (.cons (.v 1) .nil)) [] .nil) (.cons (.call "below" .nil ["b", "a"] (.cons (.v 1) (.cons (.v 0) .nil))) (.cons (.call "below" (.cons (.v 0) (.cons (.v 0) .nil)) [] .nil) .nil)))) (.cons (.bin .add false (.bin .mul false (.lst false (.cons (.call "_law_less" (.cons (.v 0) (.cons (.v 1) .nil)) [] .nil) .nil)) (.int 2)) (.lst false (.cons (.bl false) .nil))) .nil)) [] .nil)) .nil)))))), false⟩
def f_law_one_right : Fn := ⟨4, ["m"], (.cons (.set (.nm 1) (.bin .sub false (.blt .int false (.cons (.cmp .gt (.ix (.v 0) (.int 0)) (.int 0)) .nil)) (.blt .int false (.cons (.cmp .lt (.ix (.v 0) (.int 0)) (.int 0)) .nil)))) (.cons (.ite (.not (.call "_law_same" (.cons (.lst false (.cons (.call "size" (.cons (.v 0) .nil) [] .nil) (.cons (.call "size" .nil ["a"] (.cons (.v 0) .nil)) (.cons (.call "sign" (.cons (.v 0) .nil) [] .nil) (.cons (.call "sign" .nil ["a"] (.cons (.v 0) .nil)) .nil))))) (.cons (.bin .add false (.bin .mul false (.lst false (.cons (.tup (.cons (.blt .abs false (.cons (.ix (.v 0) (.int 0)) .nil)) (.cons (.ix (.v 0) (.int 1)) .nil))) .nil)) (.int 2)) (.bin .mul false (.lst false (.cons (.v 1) .nil)) (.int 2))) .nil)) [] .nil)) (.cons (.ret (.bl false)) .nil) .nil) (.cons (.set (.nm 2) (.call "rounded" (.cons (.v 0) .nil) [] .nil)) (.cons (.ite (.or (.cons (.not (.isi (.v 2) ["int"])) (.cons (.isi (.v 2) ["bool"]) (.cons (.not (.call "_law_same" (.cons (.call "rounded" .nil ["a"] (.cons (.v 0) .nil)) (.cons (.v 2) .nil)) [] .nil)) .nil)))) (.cons (.ret (.bl false)) .nil) .nil) (.cons (.set (.nm 3) (.bin .add false (.bin .mul false (.int 2) (.ix (.v 0) (.int 0))) (.ix (.v 0) (.int 1)))) (.cons (.ret (.and (.cons (.cmp .le (.bin .mul false (.bin .mul false (.v 2) (.int 2)) (.ix (.v 0) (.int 1))) (.v 3)) (.cons (.cmp .lt (.v 3) (.bin .mul false (.bin .mul false (.bin .add false (.v 2) (.int 1)) (.int 2)) (.ix (.v 0) (.int 1)))) .nil)))) .nil)))))), false⟩
def f_law_right : Fn := ⟨6, ["deck"], (.cons (.set (.tp (.cons (.nm 1) (.cons (.nm 2) (.cons (.nm 3) .nil)))) (.tup (.cons (.call "_law_couple" (.cons (.v 0) .nil) [] .nil) (.cons (.call "_law_own" (.cons (.v 0) .nil) [] .nil) (.cons (.call "_law_own" (.cons (.v 0) .nil) [] .nil) .nil))))) (.cons (.ite (.cmp .eq (.call "_law_take" (.cons (.v 0) (.cons (.int 4) .nil)) [] .nil) (.int 0)) (.cons (.set (.nm 3) (.call "_law_plus" (.cons (.v 2) (.cons (.call "_law_pair" (.cons (.bin .sub false (.call "_law_take" (.cons (.v 0) (.cons (.int 3) .nil)) [] .nil) (.int 1)) (.cons (.bin .mul false (.ix (.v 2) (.int 1)) (.bin .add false (.int 1) (.call "_law_take" (.cons (.v 0) (.cons (.int 3) .nil)) [] .nil))) .nil)) [] .nil) .nil)) [] .nil)) .nil) .nil) (.cons (.ite (.not (.call "_law_same" (.cons (.lst false (.cons (.call "is_number" (.cons (.v 1) .nil) [] .nil) (.cons (.call "is_number" .nil ["told"] (.cons (.v 1) .nil)) (.cons (.call "is_number" (.cons (.v 2) .nil) [] .nil) .nil)))) (.cons (.bin .add false (.bin .mul false (.lst false (.cons (.call "_law_is" (.cons (.v 1) .nil) [] .nil) .nil)) (.int 2)) (.lst false (.cons (.bl true) .nil))) .nil)) [] .nil)) (.cons (.ret (.bl false)) .nil) .nil) (.cons (.ite (.cmp .ne (.ix (.v 1) (.int 1)) (.int 0)) (.cons (.set (.nm 4) (.call "_law_pair" (.cons (.ix (.v 1) (.int 0)) (.cons (.ix (.v 1) (.int 1)) .nil)) [] .nil)) (.cons (.ite (.not (.call "_law_same" (.cons (.lst false (.cons (.call "number" (.cons (.ix (.v 1) (.int 0)) (.cons (.ix (.v 1) (.int 1)) .nil)) [] .nil) (.cons (.call "number" .nil ["bottom", "top"] (.cons (.ix (.v 1) (.int 1)) (.cons (.ix (.v 1) (.int 0)) .nil))) .nil))) (.cons (.lst false (.cons (.v 4) (.cons (.v 4) .nil))) .nil)) [] .nil)) (.cons (.ret (.bl false)) .nil) .nil) .nil)) .nil) (.cons (.set (.nm 5) (.cmp .eq (.call "_law_take" (.cons (.v 0) (.cons (.int 2) .nil)) [] .nil) (.int 1))) (.cons (.ite (.not (.call "_law_same" (.cons (.lst false (.cons (.call "_law_divided" (.cons (.int 0) (.cons (.v 2) (.cons (.v 5) .nil))) [] .nil) (.cons (.call "_law_divided" (.cons (.int 1) (.cons (.v 2) (.cons (.v 5) .nil))) [] .nil) .nil))) (.cons (.lst false (.cons (.lst false (.cons (.str "zero") (.cons (.ix (.v 2) (.int 0)) .nil))) (.cons (.lst false (.cons (.str "zero") (.cons (.v 2) .nil))) .nil))) .nil)) [] .nil)) (.cons (.ret (.bl false)) .nil) .nil) (.cons (.ret (.and (.cons (.call "_law_sums_right" (.cons (.v 2) (.cons (.v 3) .nil)) [] .nil) (.cons (.call "_law_sums_right" (.cons (.v 3) (.cons (.v 2) .nil)) [] .nil) (.cons (.call "_law_one_right" (.cons (.v 2) .nil) [] .nil) (.cons (.call "_law_one_right" (.cons (.v 3) .nil) [] .nil) .nil)))))) .nil))))))), false⟩
def l_law_1 : As := .for (.nm 1) (.range1 (.blt .max false (.cons (.int 3) (.cons (.blt .min false (.cons (.blt .len false (.cons (.v 0) .nil)) (.cons (.int 30) .nil))) .nil)))) (.cons (.ite (.not (.call "_law_right" (.cons (.call "_law_deck" (.cons (.v 0) (.cons (.v 1) .nil)) [] .nil) .nil) [] .nil)) (.cons (.ret (.bl false)) .nil) .nil) .nil)
def l_law_2 : As := .for (.nm 2) (.ex (.lst false (.cons (.tup (.cons (.int 0) (.cons (.int 1) .nil))) (.cons (.tup (.cons (.int 0) (.cons (.int 2) .nil))) (.cons (.tup (.cons (.int 0) (.cons (.neg (.int 1)) .nil))) (.cons (.tup (.cons (.int 0) (.cons (.int 0) .nil))) (.cons (.tup (.cons (.int 1) (.cons (.int 0) .nil))) (.cons (.tup (.cons (.neg (.int 1)) (.cons (.int 1) .nil))) (.cons (.tup (.cons (.int 1) (.cons (.neg (.int 1)) .nil))) (.cons (.tup (.cons (.int 2) (.cons (.int 4) .nil))) (.cons (.tup (.cons (.int 3) (.cons (.int 9) .nil))) (.cons (.tup (.cons (.int 4) (.cons (.int 9) .nil))) .nil)))))))))))) (.cons (.ite (.not (.call "_law_same" (.cons (.call "is_number" (.cons (.v 2) .nil) [] .nil) (.cons (.call "_law_is" (.cons (.v 2) .nil) [] .nil) .nil)) [] .nil)) (.cons (.ret (.bl false)) .nil) .nil) .nil)
def f_law : Fn := ⟨3, ["script"], (.cons l_law_1 (.cons l_law_2 (.cons (.ret (.bl true)) .nil))), false⟩
def cons : List (Str × PV) := [(("ZERO" : Str), (.tup [(.int 0), (.int 1)]))]
def e_is_integer : Ent := ⟨"is_integer", f_is_integer, ["value"], ⟨("is_integer", none), "is_integer", "is_integer", defArgs (top 6), defBody (top 6), defScope (top 6), [], []⟩⟩
def e_is_pair : Ent := ⟨"is_pair", f_is_pair, ["value"], ⟨("is_pair", none), "is_pair", "is_pair", defArgs (top 7), defBody (top 7), defScope (top 7), [], []⟩⟩
def e_lowest : Ent := ⟨"lowest", f_lowest, ["top", "bottom", "common"], ⟨("lowest", none), "lowest", "lowest", defArgs (top 8), defBody (top 8), defScope (top 8), [], []⟩⟩
def e_sum_of_two : Ent := ⟨"sum_of_two", f_sum_of_two, ["a", "b"], ⟨("sum_of_two", none), "sum_of_two", "sum_of_two", defArgs (top 9), defBody (top 9), defScope (top 9), [], []⟩⟩
def e_opposite : Ent := ⟨"opposite", f_opposite, ["a"], ⟨("opposite", none), "opposite", "opposite", defArgs (top 10), defBody (top 10), defScope (top 10), [], []⟩⟩
def e_difference : Ent := ⟨"difference", f_difference, ["a", "b"], ⟨("difference", none), "difference", "difference", defArgs (top 11), defBody (top 11), defScope (top 11), [], []⟩⟩
def e_product : Ent := ⟨"product", f_product, ["a", "b"], ⟨("product", none), "product", "product", defArgs (top 12), defBody (top 12), defScope (top 12), [], []⟩⟩
def e_quotient : Ent := ⟨"quotient", f_quotient, ["a", "b"], ⟨("quotient", none), "quotient", "quotient", defArgs (top 13), defBody (top 13), defScope (top 13), [], []⟩⟩
def e_is_less : Ent := ⟨"is_less", f_is_less, ["a", "b"], ⟨("is_less", none), "is_less", "is_less", defArgs (top 14), defBody (top 14), defScope (top 14), [], []⟩⟩
def e_size_of : Ent := ⟨"size_of", f_size_of, ["a"], ⟨("size_of", none), "size_of", "size_of", defArgs (top 15), defBody (top 15), defScope (top 15), [], []⟩⟩
def e_is_number : Ent := ⟨"is_number", f_is_number, ["told"], ⟨("is_number", none), "is_number", "is_number", defArgs (top 18), defBody (top 18), defScope (top 18), [], []⟩⟩
def e_check_numbers : Ent := ⟨"check_numbers", f_check_numbers, ["row", "a"], ⟨("check_numbers", none), "check_numbers", "check_numbers", defArgs (top 19), defBody (top 19), defScope (top 19), [], []⟩⟩
def e_number : Ent := ⟨"number", f_number, ["top", "bottom"], ⟨("number", none), "number", "number", defArgs (top 20), defBody (top 20), defScope (top 20), [], []⟩⟩
def e_plus : Ent := ⟨"plus", f_plus, ["a", "b"], ⟨("plus", none), "plus", "plus", defArgs (top 21), defBody (top 21), defScope (top 21), [], []⟩⟩
def e_minus : Ent := ⟨"minus", f_minus, ["a", "b"], ⟨("minus", none), "minus", "minus", defArgs (top 22), defBody (top 22), defScope (top 22), [], []⟩⟩
def e_times : Ent := ⟨"times", f_times, ["a", "b"], ⟨("times", none), "times", "times", defArgs (top 23), defBody (top 23), defScope (top 23), [], []⟩⟩
def e_by : Ent := ⟨"by", f_by, ["a", "b"], ⟨("by", none), "by", "by", defArgs (top 24), defBody (top 24), defScope (top 24), [], []⟩⟩
def e_size : Ent := ⟨"size", f_size, ["a"], ⟨("size", none), "size", "size", defArgs (top 25), defBody (top 25), defScope (top 25), [], []⟩⟩
def e_sign : Ent := ⟨"sign", f_sign, ["a"], ⟨("sign", none), "sign", "sign", defArgs (top 26), defBody (top 26), defScope (top 26), [], []⟩⟩
def e_below : Ent := ⟨"below", f_below, ["a", "b"], ⟨("below", none), "below", "below", defArgs (top 27), defBody (top 27), defScope (top 27), [], []⟩⟩
def e_rounded : Ent := ⟨"rounded", f_rounded, ["a"], ⟨("rounded", none), "rounded", "rounded", defArgs (top 28), defBody (top 28), defScope (top 28), [], []⟩⟩
def e_law_deck : Ent := ⟨"_law_deck", f_law_deck, ["script", "k", "cell", "stir"], ⟨("_law_deck", none), "_law_deck", "_law_deck", defArgs (top 30), defBody (top 30), defScope (top 30), [], []⟩⟩
def e_law_take : Ent := ⟨"_law_take", f_law_take, ["deck", "many", "taken"], ⟨("_law_take", none), "_law_take", "_law_take", defArgs (top 31), defBody (top 31), defScope (top 31), [], []⟩⟩
def e_law_gcd : Ent := ⟨"_law_gcd", f_law_gcd, ["m", "n"], ⟨("_law_gcd", none), "_law_gcd", "_law_gcd", defArgs (top 32), defBody (top 32), defScope (top 32), [], []⟩⟩
def e_law_pair : Ent := ⟨"_law_pair", f_law_pair, ["upper", "lower", "common"], ⟨("_law_pair", none), "_law_pair", "_law_pair", defArgs (top 33), defBody (top 33), defScope (top 33), [], []⟩⟩
def e_law_plus : Ent := ⟨"_law_plus", f_law_plus, ["m", "n"], ⟨("_law_plus", none), "_law_plus", "_law_plus", defArgs (top 34), defBody (top 34), defScope (top 34), [], []⟩⟩
def e_law_times : Ent := ⟨"_law_times", f_law_times, ["m", "n"], ⟨("_law_times", none), "_law_times", "_law_times", defArgs (top 35), defBody (top 35), defScope (top 35), [], []⟩⟩
def e_law_less : Ent := ⟨"_law_less", f_law_less, ["m", "n"], ⟨("_law_less", none), "_law_less", "_law_less", defArgs (top 36), defBody (top 36), defScope (top 36), [], []⟩⟩
def e_law_same : Ent := ⟨"_law_same", f_law_same, ["found", "due", "k"], ⟨("_law_same", none), "_law_same", "_law_same", defArgs (top 37), defBody (top 37), defScope (top 37), [], []⟩⟩
def e_law_integer : Ent := ⟨"_law_integer", f_law_integer, ["deck", "few", "base", "value"], ⟨("_law_integer", none), "_law_integer", "_law_integer", defArgs (top 38), defBody (top 38), defScope (top 38), [], []⟩⟩
def e_law_couple : Ent := ⟨"_law_couple", f_law_couple, ["deck", "upper", "lower", "way", "more"], ⟨("_law_couple", none), "_law_couple", "_law_couple", defArgs (top 39), defBody (top 39), defScope (top 39), [], []⟩⟩
def e_law_own : Ent := ⟨"_law_own", f_law_own, ["deck", "upper", "lower"], ⟨("_law_own", none), "_law_own", "_law_own", defArgs (top 40), defBody (top 40), defScope (top 40), [], []⟩⟩
def e_law_is : Ent := ⟨"_law_is", f_law_is, ["pair"], ⟨("_law_is", none), "_law_is", "_law_is", defArgs (top 41), defBody (top 41), defScope (top 41), [], []⟩⟩
def e_law_divided : Ent := ⟨"_law_divided", f_law_divided, ["door", "m", "named", "answer", "e"], ⟨("_law_divided", none), "_law_divided", "_law_divided", defArgs (top 42), defBody (top 42), defScope (top 42), [], []⟩⟩
def e_law_sums_right : Ent := ⟨"_law_sums_right", f_law_sums_right, ["m", "n", "opposite_v"], ⟨("_law_sums_right", none), "_law_sums_right", "_law_sums_right", defArgs (top 43), defBody (top 43), defScope (top 43), [], []⟩⟩
def e_law_one_right : Ent := ⟨"_law_one_right", f_law_one_right, ["m", "due", "near", "half"], ⟨("_law_one_right", none), "_law_one_right", "_law_one_right", defArgs (top 44), defBody (top 44), defScope (top 44), [], []⟩⟩
def e_law_right : Ent := ⟨"_law_right", f_law_right, ["deck", "pair", "m", "n", "due", "named"], ⟨("_law_right", none), "_law_right", "_law_right", defArgs (top 45), defBody (top 45), defScope (top 45), [], []⟩⟩
def e_law : Ent := ⟨"law", f_law, ["script", "k", "pair"], ⟨("law", none), "law", "law", defArgs (top 46), defBody (top 46), defScope (top 46), [], []⟩⟩
def ents : List Ent := [e_is_integer, e_is_pair, e_lowest, e_sum_of_two, e_opposite, e_difference, e_product, e_quotient, e_is_less, e_size_of, e_is_number, e_check_numbers, e_number, e_plus, e_minus, e_times, e_by, e_size, e_sign, e_below, e_rounded, e_law_deck, e_law_take, e_law_gcd, e_law_pair, e_law_plus, e_law_times, e_law_less, e_law_same, e_law_integer, e_law_couple, e_law_own, e_law_is, e_law_divided, e_law_sums_right, e_law_one_right, e_law_right, e_law]
def PG : Pg := mkPg ents cons [("InvalidNumber" : Str), ("DividedByZero" : Str)]
def LK : Lk := ⟨[("abs" : Str), ("bool" : Str), ("int" : Str), ("isinstance" : Str), ("len" : Str), ("list" : Str), ("max" : Str), ("min" : Str), ("range" : Str), ("str" : Str), ("tuple" : Str)], true, cons.map (·.1), [("InvalidNumber" : Str), ("DividedByZero" : Str)], ents.map (·.f), false⟩
theorem pg_is_integer : PG.fns "is_integer" = some f_is_integer := by rfl
theorem pg_is_pair : PG.fns "is_pair" = some f_is_pair := by rfl
theorem pg_lowest : PG.fns "lowest" = some f_lowest := by rfl
theorem pg_sum_of_two : PG.fns "sum_of_two" = some f_sum_of_two := by rfl
theorem pg_opposite : PG.fns "opposite" = some f_opposite := by rfl
theorem pg_difference : PG.fns "difference" = some f_difference := by rfl
theorem pg_product : PG.fns "product" = some f_product := by rfl
theorem pg_quotient : PG.fns "quotient" = some f_quotient := by rfl
theorem pg_is_less : PG.fns "is_less" = some f_is_less := by rfl
theorem pg_size_of : PG.fns "size_of" = some f_size_of := by rfl
theorem pg_is_number : PG.fns "is_number" = some f_is_number := by rfl
theorem pg_check_numbers : PG.fns "check_numbers" = some f_check_numbers := by rfl
theorem pg_number : PG.fns "number" = some f_number := by rfl
theorem pg_plus : PG.fns "plus" = some f_plus := by rfl
theorem pg_minus : PG.fns "minus" = some f_minus := by rfl
theorem pg_times : PG.fns "times" = some f_times := by rfl
theorem pg_by : PG.fns "by" = some f_by := by rfl
theorem pg_size : PG.fns "size" = some f_size := by rfl
theorem pg_sign : PG.fns "sign" = some f_sign := by rfl
theorem pg_below : PG.fns "below" = some f_below := by rfl
theorem pg_rounded : PG.fns "rounded" = some f_rounded := by rfl
theorem pg_law_deck : PG.fns "_law_deck" = some f_law_deck := by rfl
theorem pg_law_take : PG.fns "_law_take" = some f_law_take := by rfl
theorem pg_law_gcd : PG.fns "_law_gcd" = some f_law_gcd := by rfl
theorem pg_law_pair : PG.fns "_law_pair" = some f_law_pair := by rfl
theorem pg_law_plus : PG.fns "_law_plus" = some f_law_plus := by rfl
theorem pg_law_times : PG.fns "_law_times" = some f_law_times := by rfl
theorem pg_law_less : PG.fns "_law_less" = some f_law_less := by rfl
theorem pg_law_same : PG.fns "_law_same" = some f_law_same := by rfl
theorem pg_law_integer : PG.fns "_law_integer" = some f_law_integer := by rfl
theorem pg_law_couple : PG.fns "_law_couple" = some f_law_couple := by rfl
theorem pg_law_own : PG.fns "_law_own" = some f_law_own := by rfl
theorem pg_law_is : PG.fns "_law_is" = some f_law_is := by rfl
theorem pg_law_divided : PG.fns "_law_divided" = some f_law_divided := by rfl
theorem pg_law_sums_right : PG.fns "_law_sums_right" = some f_law_sums_right := by rfl
theorem pg_law_one_right : PG.fns "_law_one_right" = some f_law_one_right := by rfl
theorem pg_law_right : PG.fns "_law_right" = some f_law_right := by rfl
theorem pg_law : PG.fns "law" = some f_law := by rfl
theorem st_ok : ents.all (stOk LK) = true := by decide +kernel
end Mx.K01


set_option Elab.async false
set_option linter.all false
set_option maxRecDepth 100000
set_option maxHeartbeats 0
namespace Mx.K01
open PySem PySem.Spec PyProof.Rows L2 Mx
def dI : He.DefD := match top 2 with
  | .ClassDef _ _ _ (st :: _) _ _ _ _ _ _ _ => ⟨("WishError", some "__init__"), "__init__", "WishError.__init__", defArgs st, defBody st, defScope st, [], []⟩
  | _ => ⟨("", none), "", "", ⟨[], [], none, [], [], none, []⟩, [], ⟨.function, [], false, false, []⟩, [], []⟩
def loose : List Str := ([("__name__" : Str), ("WishError" : Str), ("InvalidNumber" : Str), ("DividedByZero" : Str), ("is_integer" : Str), ("is_pair" : Str), ("lowest" : Str), ("sum_of_two" : Str), ("opposite" : Str), ("difference" : Str), ("product" : Str), ("quotient" : Str), ("is_less" : Str), ("size_of" : Str), ("ZERO" : Str), ("is_number" : Str), ("check_numbers" : Str), ("number" : Str), ("plus" : Str), ("minus" : Str), ("times" : Str), ("by" : Str), ("size" : Str), ("sign" : Str), ("below" : Str), ("rounded" : Str), ("_law_deck" : Str), ("_law_take" : Str), ("_law_gcd" : Str), ("_law_pair" : Str), ("_law_plus" : Str), ("_law_times" : Str), ("_law_less" : Str), ("_law_same" : Str), ("_law_integer" : Str)] : List Str) ++ ([("_law_couple" : Str), ("_law_own" : Str), ("_law_is" : Str), ("_law_divided" : Str), ("_law_sums_right" : Str), ("_law_one_right" : Str), ("_law_right" : Str)] : List Str)
abbrev Rw : PySem.W.OpenRow := PySem.W.OpenLaw.row PySem.Challenge.rw_rankedwishes_k01_whole_numbers
abbrev hk : PySem.W.Hook := hookM 5 (chkK LK PG.exc cons) (fnsOf ents PG dI)
def ob (s : PySem.W.SharedT) : AlM := obsMG 5 (chkK LK PG.exc cons) (fnsOf ents PG dI) (HandSHeadRun.getT s)
theorem ob_eq (s : PySem.W.SharedT) : ob s = hk.obs s.abs := obsMG_eq (HandSHeadRun.getT_eq s)
theorem run (w : World) : HandSHeadRun.RunEqI Rw (PySem.W.view Rw.prog [0, 46]) hk ob 20000 loose w := by
  unfold HandSHeadRun.RunEqI
  kernel_rfl
theorem txt : Txt LK PG ents cons dI := txt_of rfl rfl rfl st_ok fun _ => ⟨rfl, rfl, rfl, rfl, rfl, rfl, rfl, rfl, ⟨rfl, rfl, rfl, by decide +kernel, rfl, by decide +kernel, by decide +kernel⟩, rfl, rfl, rfl, _, _, _, _, _, _, _, _, _, _, rfl, fun _ => ⟨_, rfl⟩⟩
end Mx.K01


set_option linter.all false
namespace Mx.K01
/-! lowest terms -/
def low (t b : Int) : Int × Int := (t.fdiv (if b < 0 then -(Nat.gcd t.natAbs b.natAbs : Int) else (Nat.gcd t.natAbs b.natAbs : Int)), b.fdiv (if b < 0 then -(Nat.gcd t.natAbs b.natAbs : Int) else (Nat.gcd t.natAbs b.natAbs : Int)))
def IsLow (p : Int × Int) : Prop := 0 < p.2 ∧ Nat.gcd p.1.natAbs p.2.natAbs = 1
theorem fdiv_of_dvd {a g : Int} (hg : g ≠ 0) (h : g ∣ a) : a.fdiv g * g = a := by
  obtain ⟨c, rfl⟩ := h
  rw [Int.mul_comm g c, Int.mul_fdiv_cancel _ hg]
theorem low_mul {t b : Int} (hb : b ≠ 0) : ∃ g : Int, g ≠ 0 ∧ g.natAbs = Nat.gcd t.natAbs b.natAbs ∧ (low t b).1 * g = t ∧ (low t b).2 * g = b ∧ (g < 0 ↔ b < 0) := by
  have hg : 0 < Nat.gcd t.natAbs b.natAbs := Nat.gcd_pos_of_pos_right _ (by omega)
  have d1 : (Nat.gcd t.natAbs b.natAbs : Int) ∣ t := Int.ofNat_dvd_left.mpr (Nat.gcd_dvd_left _ _)
  have d2 : (Nat.gcd t.natAbs b.natAbs : Int) ∣ b := Int.ofNat_dvd_left.mpr (Nat.gcd_dvd_right _ _)
  by_cases h : b < 0
  · refine ⟨-(Nat.gcd t.natAbs b.natAbs : Int), by omega, by omega, ?_, ?_, by omega⟩
    · show (t.fdiv (if b < 0 then _ else _)) * _ = t
      rw [if_pos h]
      exact fdiv_of_dvd (by omega) (Int.neg_dvd.mpr d1)
    · show (b.fdiv (if b < 0 then _ else _)) * _ = b
      rw [if_pos h]
      exact fdiv_of_dvd (by omega) (Int.neg_dvd.mpr d2)
  · refine ⟨(Nat.gcd t.natAbs b.natAbs : Int), by omega, by omega, ?_, ?_, by omega⟩
    · show (t.fdiv (if b < 0 then _ else _)) * _ = t
      rw [if_neg h]
      exact fdiv_of_dvd (by omega) d1
    · show (b.fdiv (if b < 0 then _ else _)) * _ = b
      rw [if_neg h]
      exact fdiv_of_dvd (by omega) d2
theorem low_low {t b : Int} (hb : b ≠ 0) : IsLow (low t b) := by
  obtain ⟨g, g0, gn, e1, e2, gs⟩ := low_mul (t := t) hb
  constructor
  · by_cases hn : g < 0
    · have : b < 0 := gs.mp hn
      refine Int.not_le.mp fun hle => ?_
      have : 0 ≤ (low t b).2 * g := Int.mul_nonneg_of_nonpos_of_nonpos hle (by omega)
      omega
    · have hb' : ¬ b < 0 := fun q => hn (gs.mpr q)
      refine Int.not_le.mp fun hle => ?_
      have : (low t b).2 * g ≤ 0 := Int.mul_nonpos_of_nonpos_of_nonneg hle (by omega)
      omega
  · have h1 : t.natAbs = (low t b).1.natAbs * g.natAbs := by rw [← Int.natAbs_mul, e1]
    have h2 : b.natAbs = (low t b).2.natAbs * g.natAbs := by rw [← Int.natAbs_mul, e2]
    have h3 : Nat.gcd t.natAbs b.natAbs = Nat.gcd (low t b).1.natAbs (low t b).2.natAbs * g.natAbs := by
      rw [h1, h2, Nat.gcd_mul_right]
    have hp : 0 < g.natAbs := by omega
    rw [← gn] at h3
    have : 1 * g.natAbs = Nat.gcd (low t b).1.natAbs (low t b).2.natAbs * g.natAbs := by rw [Nat.one_mul]; exact h3
    exact (Nat.eq_of_mul_eq_mul_right hp this).symm
theorem low_self {p : Int × Int} (h : IsLow p) : low p.1 p.2 = p := by
  obtain ⟨h1, h2⟩ := h
  unfold low
  rw [h2, if_neg (by omega)]
  simp
theorem low_eq {p : Int × Int} (h1 : 0 < p.2) (h : low p.1 p.2 = p) : IsLow p := by
  rw [← h]; exact low_low (by omega)
theorem low_one (t : Int) : low t 1 = (t, 1) := low_self (p := (t, 1)) ⟨by show (0 : Int) < 1; decide, by simp⟩
theorem low_le {t b : Int} (hb : b ≠ 0) : (low t b).1.natAbs ≤ t.natAbs ∧ (low t b).2.natAbs ≤ b.natAbs := by
  obtain ⟨g, g0, gn, e1, e2, gs⟩ := low_mul (t := t) hb
  have hp : 0 < g.natAbs := by omega
  have h1 : t.natAbs = (low t b).1.natAbs * g.natAbs := by rw [← Int.natAbs_mul, e1]
  have h2 : b.natAbs = (low t b).2.natAbs * g.natAbs := by rw [← Int.natAbs_mul, e2]
  exact ⟨by rw [h1]; exact Nat.le_mul_of_pos_right _ hp, by rw [h2]; exact Nat.le_mul_of_pos_right _ hp⟩
end Mx.K01


set_option linter.all false
set_option maxRecDepth 100000
set_option maxHeartbeats 4000000
set_option exponentiation.threshold 20000
namespace Mx.K01
open PySem PySem.Spec PyProof.Rows L2 Mx
theorem up {n k m : Nat} (h : n < 2 ^ k) (hk : k ≤ m := by decide) : n < 2 ^ m := Nat.lt_of_lt_of_le h (Nat.pow_le_pow_right (by decide) hk)
def Dk (h : MH) (n : Nat) : Prop := ∃ a b : Int, 0 ≤ a ∧ 0 ≤ b ∧ b < 2 ^ 64 ∧ h[n]? = some (.lst [.int a, .int b])
theorem s_take (k n : Nat) (h : MH) (many : Int) (hD : Dk h n) (h1 : 1 ≤ many) (h2 : many ≤ 2 ^ 64) :
   ∃ t h', call PG (k+1) "_law_take" [.ref n, .int many] [] [] h = .ok (.int t) h' ∧ 0 ≤ t ∧ t < many ∧ h'.length = h.length ∧ Dk h' n := by
  obtain ⟨a, b, ha, hb, hb2, hn⟩ := hD
  have hlt : n < h.length := (List.getElem?_eq_some_iff.mp hn).1
  rw [call_at pg_law_take (args_pos rfl)]
  have hm : many ≠ 0 := by omega
  have f1 : fitd many := fitd_of (up (k := 65) (by omega))
  have f2 : fits b 6364136223846793005 := fits_of (up (k := 64) (by omega)) (up (k := 64) (by decide))
  have f3 : fitd 8589934592 := fitd_of (up (k := 64) (by decide))
  have hs : ∀ o, (h.set n o)[n]? = some o := fun o => List.getElem?_set_self hlt
  by_cases hp : 0 < a
  · refine ⟨a.fmod many, h.set n (.lst [.int (a.fdiv many), .int b]), ?_, Int.fmod_nonneg_of_pos _ (by omega), Int.fmod_lt_of_pos _ (by omega), by simp, a.fdiv many, b, Int.fdiv_nonneg ha (by omega), hb, hb2, hs _⟩
    simp [body, q_ev_v, q_ev_non, q_ev_bl, q_ev_int, q_ev_str, q_ev_con, q_ev_tup, q_ev_lst, q_ev_bin, q_ev_neg, q_ev_not, q_ev_cmp, q_ev_chain, q_ev_and, q_ev_or, q_ev_ifx, q_ev_ix, q_ev_sl, q_ev_call, q_ev_blt, q_ev_isi, q_ev_met, q_ev_val, q_evs_nil, q_evs_cons, q_evAnd_cons, q_evAnd_cons2, q_evOr_cons, q_evOr_cons2, q_evIfs_none, q_evIfs_some, q_evo_none, q_evo_some, q_evi_ex, q_run1_ex, q_run1_set, q_run1_put, q_run1_ite, q_run1_whl, q_run1_for, q_run1_ret, q_run1_retN, q_run1_rais, q_run1_try, q_run1_brk, q_run1_cnt, q_run1_pas, q_runs_nil, q_runs_cons, q_runH_nil, q_runH_cons, tst, bltop, bindG, bindGs, cmpop, ofB, truthy, int1, int2, ltop, leop, binop, addop, subop, mulop, divop, modop, powop, ixop, items, litems, mkLst, lenop, intop, isiop, tyOf, putop, src, wipeP, f_law_take, hn, hp, hm, f1, hs]
    exact res_rt (leave_len (by simp) fun k e => by cases e)
  · refine ⟨(((b * 6364136223846793005 + 1442695040888963407).fmod 18446744073709551616).fdiv 8589934592).fmod many, h.set n (.lst [.int a, .int ((b * 6364136223846793005 + 1442695040888963407).fmod 18446744073709551616)]), ?_, Int.fmod_nonneg_of_pos _ (by omega), Int.fmod_lt_of_pos _ (by omega), by simp, a, _, ha, Int.fmod_nonneg_of_pos _ (by decide), Int.fmod_lt_of_pos _ (by decide), hs _⟩
    simp [body, q_ev_v, q_ev_non, q_ev_bl, q_ev_int, q_ev_str, q_ev_con, q_ev_tup, q_ev_lst, q_ev_bin, q_ev_neg, q_ev_not, q_ev_cmp, q_ev_chain, q_ev_and, q_ev_or, q_ev_ifx, q_ev_ix, q_ev_sl, q_ev_call, q_ev_blt, q_ev_isi, q_ev_met, q_ev_val, q_evs_nil, q_evs_cons, q_evAnd_cons, q_evAnd_cons2, q_evOr_cons, q_evOr_cons2, q_evIfs_none, q_evIfs_some, q_evo_none, q_evo_some, q_evi_ex, q_run1_ex, q_run1_set, q_run1_put, q_run1_ite, q_run1_whl, q_run1_for, q_run1_ret, q_run1_retN, q_run1_rais, q_run1_try, q_run1_brk, q_run1_cnt, q_run1_pas, q_runs_nil, q_runs_cons, q_runH_nil, q_runH_cons, tst, bltop, bindG, bindGs, cmpop, ofB, truthy, int1, int2, ltop, leop, binop, addop, subop, mulop, divop, modop, powop, ixop, items, litems, mkLst, lenop, intop, isiop, tyOf, putop, src, wipeP, f_law_take, hn, hp, hm, f1, f2, f3, hs]
    exact res_rt (leave_len (by simp) fun k e => by cases e)
/-- a pair -/
def pr (p : Int × Int) : PV := .tup [.int p.1, .int p.2]
def Sm (n : Nat) (i : Int) : Prop := i.natAbs < 2 ^ n
theorem Sm.up {n m : Nat} {i : Int} (h : Sm n i) (hk : n ≤ m := by decide) : Sm m i := K01.up h hk
theorem Sm.fits {i j : Int} (h1 : Sm 9000 i) (h2 : Sm 9000 j) : Mx.fits i j := fits_of h1 h2
theorem gcd_fit {t b : Int} (hb : b ≠ 0) (h : Sm 8998 b) : fitd (Nat.gcd t.natAbs b.natAbs : Int) ∧ fitd (-(Nat.gcd t.natAbs b.natAbs : Int)) := by
  have h1 : Nat.gcd t.natAbs b.natAbs ≤ b.natAbs := Nat.le_of_dvd (by omega) (Nat.gcd_dvd_right _ _)
  have h2 : b.natAbs < 2 ^ 8999 := K01.up h
  constructor
  · exact fitd_of (by rw [Int.natAbs_natCast]; exact Nat.lt_of_le_of_lt h1 h2)
  · exact fitd_of (by rw [Int.natAbs_neg, Int.natAbs_natCast]; exact Nat.lt_of_le_of_lt h1 h2)
theorem s_lowest (n : Nat) (h : MH) (a b : Int) (hb : b ≠ 0) (hs : Sm 8998 b) : call PG (n+1) "lowest" [.int a, .int b] [] [] h = .ok (pr (low a b)) h := by
  rw [call_at pg_lowest (args_pos rfl)]
  obtain ⟨f1, f2⟩ := gcd_fit (t := a) hb hs
  have hg : (Nat.gcd a.natAbs b.natAbs : Int) ≠ 0 := by
    have := Nat.gcd_pos_of_pos_right a.natAbs (show 0 < b.natAbs by omega)
    omega
  have hg2 : ¬ (a = 0 ∧ b = 0) := fun q => hb q.2
  by_cases hn : b < 0
  · simp [body, q_ev_v, q_ev_non, q_ev_bl, q_ev_int, q_ev_str, q_ev_con, q_ev_tup, q_ev_lst, q_ev_bin, q_ev_neg, q_ev_not, q_ev_cmp, q_ev_chain, q_ev_and, q_ev_or, q_ev_ifx, q_ev_ix, q_ev_sl, q_ev_call, q_ev_blt, q_ev_isi, q_ev_met, q_ev_val, q_evs_nil, q_evs_cons, q_evAnd_cons, q_evAnd_cons2, q_evOr_cons, q_evOr_cons2, q_evIfs_none, q_evIfs_some, q_evo_none, q_evo_some, q_evi_ex, q_run1_ex, q_run1_set, q_run1_put, q_run1_ite, q_run1_whl, q_run1_for, q_run1_ret, q_run1_retN, q_run1_rais, q_run1_try, q_run1_brk, q_run1_cnt, q_run1_pas, q_runs_nil, q_runs_cons, q_runH_nil, q_runH_cons, tst, bltop, bindG, bindGs, cmpop, ofB, truthy, int1, int2, ltop, leop, binop, addop, subop, mulop, divop, modop, powop, ixop, items, litems, mkLst, lenop, intop, isiop, tyOf, putop, src, wipeP, f_lowest, hn, f1, f2, hg, hg2, hb]
    rw [res_rt (leave_tup _ _)]
    unfold pr low
    rw [if_pos hn]
  · simp [body, q_ev_v, q_ev_non, q_ev_bl, q_ev_int, q_ev_str, q_ev_con, q_ev_tup, q_ev_lst, q_ev_bin, q_ev_neg, q_ev_not, q_ev_cmp, q_ev_chain, q_ev_and, q_ev_or, q_ev_ifx, q_ev_ix, q_ev_sl, q_ev_call, q_ev_blt, q_ev_isi, q_ev_met, q_ev_val, q_evs_nil, q_evs_cons, q_evAnd_cons, q_evAnd_cons2, q_evOr_cons, q_evOr_cons2, q_evIfs_none, q_evIfs_some, q_evo_none, q_evo_some, q_evi_ex, q_run1_ex, q_run1_set, q_run1_put, q_run1_ite, q_run1_whl, q_run1_for, q_run1_ret, q_run1_retN, q_run1_rais, q_run1_try, q_run1_brk, q_run1_cnt, q_run1_pas, q_runs_nil, q_runs_cons, q_runH_nil, q_runH_cons, tst, bltop, bindG, bindGs, cmpop, ofB, truthy, int1, int2, ltop, leop, binop, addop, subop, mulop, divop, modop, powop, ixop, items, litems, mkLst, lenop, intop, isiop, tyOf, putop, src, wipeP, f_lowest, hn, f1, f2, hg, hg2, hb]
    rw [res_rt (leave_tup _ _)]
    unfold pr low
    rw [if_neg hn]

def gC : Ae := .cmp .ne (.v 1) (.int 0)
def gB : Ass := .cons (.set (.tp (.cons (.nm 0) (.cons (.nm 1) .nil))) (.tup (.cons (.v 1) (.cons (.bin .mod false (.blt .int false (.cons (.v 0) .nil)) (.v 1)) .nil)))) .nil
theorem gcd_loop (cl : Calls) (h : MH) : ∀ (N : Nat) (m n : Int), 0 ≤ m → 0 ≤ n → n.natAbs ≤ N → ∃ f, whlN (tst PG cl gC) (runs PG cl gB) f [some (.int m), some (.int n)] h = .nx [some (.int (Nat.gcd m.natAbs n.natAbs : Nat)), some (.int 0)] h
  | N, m, n, hm, hn, hN => by
    by_cases h0 : n = 0
    · subst h0
      refine ⟨1, ?_⟩
      rw [whlN_step]
      simp [gC, body, q_ev_v, q_ev_non, q_ev_bl, q_ev_int, q_ev_str, q_ev_con, q_ev_tup, q_ev_lst, q_ev_bin, q_ev_neg, q_ev_not, q_ev_cmp, q_ev_chain, q_ev_and, q_ev_or, q_ev_ifx, q_ev_ix, q_ev_sl, q_ev_call, q_ev_blt, q_ev_isi, q_ev_met, q_ev_val, q_evs_nil, q_evs_cons, q_evAnd_cons, q_evAnd_cons2, q_evOr_cons, q_evOr_cons2, q_evIfs_none, q_evIfs_some, q_evo_none, q_evo_some, q_evi_ex, q_run1_ex, q_run1_set, q_run1_put, q_run1_ite, q_run1_whl, q_run1_for, q_run1_ret, q_run1_retN, q_run1_rais, q_run1_try, q_run1_brk, q_run1_cnt, q_run1_pas, q_runs_nil, q_runs_cons, q_runH_nil, q_runH_cons, tst, bltop, bindG, bindGs, cmpop, ofB, truthy, int1, int2, ltop, leop, binop, addop, subop, mulop, divop, modop, powop, ixop, items, litems, mkLst, lenop, intop, isiop, tyOf, putop, src, wipeP, peq, scalP, eqF]
      omega
    · cases N with
      | zero => omega
      | succ N =>
        have hlt := Int.fmod_lt_of_pos m (show 0 < n by omega)
        have hge := Int.fmod_nonneg_of_pos m (show 0 < n by omega)
        obtain ⟨f, e⟩ := gcd_loop cl h N n (m.fmod n) hn hge (by omega)
        refine ⟨f + 1, ?_⟩
        rw [whlN_step]
        have e2 : tst PG cl gC [some (.int m), some (.int n)] h = .ok true h := by
          simp [gC, body, q_ev_v, q_ev_non, q_ev_bl, q_ev_int, q_ev_str, q_ev_con, q_ev_tup, q_ev_lst, q_ev_bin, q_ev_neg, q_ev_not, q_ev_cmp, q_ev_chain, q_ev_and, q_ev_or, q_ev_ifx, q_ev_ix, q_ev_sl, q_ev_call, q_ev_blt, q_ev_isi, q_ev_met, q_ev_val, q_evs_nil, q_evs_cons, q_evAnd_cons, q_evAnd_cons2, q_evOr_cons, q_evOr_cons2, q_evIfs_none, q_evIfs_some, q_evo_none, q_evo_some, q_evi_ex, q_run1_ex, q_run1_set, q_run1_put, q_run1_ite, q_run1_whl, q_run1_for, q_run1_ret, q_run1_retN, q_run1_rais, q_run1_try, q_run1_brk, q_run1_cnt, q_run1_pas, q_runs_nil, q_runs_cons, q_runH_nil, q_runH_cons, tst, bltop, bindG, bindGs, cmpop, ofB, truthy, int1, int2, ltop, leop, binop, addop, subop, mulop, divop, modop, powop, ixop, items, litems, mkLst, lenop, intop, isiop, tyOf, putop, src, wipeP, peq, scalP, eqF, h0]
        have e3 : runs PG cl gB [some (.int m), some (.int n)] h = .nx [some (.int n), some (.int (m.fmod n))] h := by
          simp [gB, body, q_ev_v, q_ev_non, q_ev_bl, q_ev_int, q_ev_str, q_ev_con, q_ev_tup, q_ev_lst, q_ev_bin, q_ev_neg, q_ev_not, q_ev_cmp, q_ev_chain, q_ev_and, q_ev_or, q_ev_ifx, q_ev_ix, q_ev_sl, q_ev_call, q_ev_blt, q_ev_isi, q_ev_met, q_ev_val, q_evs_nil, q_evs_cons, q_evAnd_cons, q_evAnd_cons2, q_evOr_cons, q_evOr_cons2, q_evIfs_none, q_evIfs_some, q_evo_none, q_evo_some, q_evi_ex, q_run1_ex, q_run1_set, q_run1_put, q_run1_ite, q_run1_whl, q_run1_for, q_run1_ret, q_run1_retN, q_run1_rais, q_run1_try, q_run1_brk, q_run1_cnt, q_run1_pas, q_runs_nil, q_runs_cons, q_runH_nil, q_runH_cons, tst, bltop, bindG, bindGs, cmpop, ofB, truthy, int1, int2, ltop, leop, binop, addop, subop, mulop, divop, modop, powop, ixop, items, litems, mkLst, lenop, intop, isiop, tyOf, putop, src, wipeP, h0]
        rw [e2, Res.out_ok, if_pos rfl, e3, Out.turn_nx, e]
        have e4 : Nat.gcd n.natAbs (m.fmod n).natAbs = Nat.gcd m.natAbs n.natAbs := by
          have : m.fmod n = ((m.natAbs % n.natAbs : Nat) : Int) := by
            rw [Int.fmod_eq_emod_of_nonneg _ hn]
            obtain ⟨m', rfl⟩ := Int.eq_ofNat_of_zero_le hm
            obtain ⟨n', rfl⟩ := Int.eq_ofNat_of_zero_le hn
            rfl
          rw [this, Int.natAbs_natCast, Nat.gcd_comm m.natAbs, Nat.gcd_rec n.natAbs m.natAbs]
          exact Nat.gcd_comm _ _
        rw [e4]
theorem s_gcd (k : Nat) (h : MH) (m n : Int) (hm : 0 ≤ m) (hn : 0 ≤ n) : call PG (k+1) "_law_gcd" [.int m, .int n] [] [] h = .ok (.int (Nat.gcd m.natAbs n.natAbs : Nat)) h := by
  rw [call_at pg_law_gcd (args_pos rfl)]
  obtain ⟨f, e⟩ := gcd_loop (call PG k) h n.natAbs m n hm hn (Nat.le_refl _)
  have e1 : whlE (tst PG (call PG k) gC) (runs PG (call PG k) gB) [some (.int m), some (.int n)] h = _ := whl_eq e (by simp)
  simp [body, f_law_gcd, w_law_gcd_1, q_runs_cons, q_run1_whl]
  show Out.res false h ((whlE (tst PG (call PG k) gC) (runs PG (call PG k) gB) [some (.int m), some (.int n)] h).seq _) = _
  rw [e1]
  simp [body, q_ev_v, q_ev_non, q_ev_bl, q_ev_int, q_ev_str, q_ev_con, q_ev_tup, q_ev_lst, q_ev_bin, q_ev_neg, q_ev_not, q_ev_cmp, q_ev_chain, q_ev_and, q_ev_or, q_ev_ifx, q_ev_ix, q_ev_sl, q_ev_call, q_ev_blt, q_ev_isi, q_ev_met, q_ev_val, q_evs_nil, q_evs_cons, q_evAnd_cons, q_evAnd_cons2, q_evOr_cons, q_evOr_cons2, q_evIfs_none, q_evIfs_some, q_evo_none, q_evo_some, q_evi_ex, q_run1_ex, q_run1_set, q_run1_put, q_run1_ite, q_run1_whl, q_run1_for, q_run1_ret, q_run1_retN, q_run1_rais, q_run1_try, q_run1_brk, q_run1_cnt, q_run1_pas, q_runs_nil, q_runs_cons, q_runH_nil, q_runH_cons, tst, bltop, bindG, bindGs, cmpop, ofB, truthy, int1, int2, ltop, leop, binop, addop, subop, mulop, divop, modop, powop, ixop, items, litems, mkLst, lenop, intop, isiop, tyOf, putop, src, wipeP]
  exact res_rt (leave_int _ _)
theorem s_pair (k : Nat) (h : MH) (a b : Int) (hb : b ≠ 0) (hs : Sm 8998 b) : call PG (k+2) "_law_pair" [.int a, .int b] [] [] h = .ok (pr (low a b)) h := by
  rw [call_at pg_law_pair (args_pos rfl)]
  obtain ⟨f1, f2⟩ := gcd_fit (t := a) hb hs
  have hg : (Nat.gcd a.natAbs b.natAbs : Int) ≠ 0 := by
    have := Nat.gcd_pos_of_pos_right a.natAbs (show 0 < b.natAbs by omega)
    omega
  have hg2 : ¬ (a = 0 ∧ b = 0) := fun q => hb q.2
  have ea : (if a < 0 then -a else a) = (a.natAbs : Int) := by split <;> omega
  have ec := s_gcd k h (a.natAbs : Int) (b.natAbs : Int) (by omega) (by omega)
  rw [Int.natAbs_natCast, Int.natAbs_natCast] at ec
  by_cases hn : b < 0
  · have eb : (b.natAbs : Int) = -b := by omega
    rw [eb] at ec
    simp [body, q_ev_v, q_ev_non, q_ev_bl, q_ev_int, q_ev_str, q_ev_con, q_ev_tup, q_ev_lst, q_ev_bin, q_ev_neg, q_ev_not, q_ev_cmp, q_ev_chain, q_ev_and, q_ev_or, q_ev_ifx, q_ev_ix, q_ev_sl, q_ev_call, q_ev_blt, q_ev_isi, q_ev_met, q_ev_val, q_evs_nil, q_evs_cons, q_evAnd_cons, q_evAnd_cons2, q_evOr_cons, q_evOr_cons2, q_evIfs_none, q_evIfs_some, q_evo_none, q_evo_some, q_evi_ex, q_run1_ex, q_run1_set, q_run1_put, q_run1_ite, q_run1_whl, q_run1_for, q_run1_ret, q_run1_retN, q_run1_rais, q_run1_try, q_run1_brk, q_run1_cnt, q_run1_pas, q_runs_nil, q_runs_cons, q_runH_nil, q_runH_cons, tst, bltop, bindG, bindGs, cmpop, ofB, truthy, int1, int2, ltop, leop, binop, addop, subop, mulop, divop, modop, powop, ixop, items, litems, mkLst, lenop, intop, isiop, tyOf, putop, src, wipeP, f_law_pair, f1, f2, hg, hg2, hb, ea, hn, ec]
    rw [res_rt (leave_tup _ _)]
    unfold pr low
    rw [if_pos hn]
  · have eb : (b.natAbs : Int) = b := by omega
    rw [eb] at ec
    simp [body, q_ev_v, q_ev_non, q_ev_bl, q_ev_int, q_ev_str, q_ev_con, q_ev_tup, q_ev_lst, q_ev_bin, q_ev_neg, q_ev_not, q_ev_cmp, q_ev_chain, q_ev_and, q_ev_or, q_ev_ifx, q_ev_ix, q_ev_sl, q_ev_call, q_ev_blt, q_ev_isi, q_ev_met, q_ev_val, q_evs_nil, q_evs_cons, q_evAnd_cons, q_evAnd_cons2, q_evOr_cons, q_evOr_cons2, q_evIfs_none, q_evIfs_some, q_evo_none, q_evo_some, q_evi_ex, q_run1_ex, q_run1_set, q_run1_put, q_run1_ite, q_run1_whl, q_run1_for, q_run1_ret, q_run1_retN, q_run1_rais, q_run1_try, q_run1_brk, q_run1_cnt, q_run1_pas, q_runs_nil, q_runs_cons, q_runH_nil, q_runH_cons, tst, bltop, bindG, bindGs, cmpop, ofB, truthy, int1, int2, ltop, leop, binop, addop, subop, mulop, divop, modop, powop, ixop, items, litems, mkLst, lenop, intop, isiop, tyOf, putop, src, wipeP, f_law_pair, f1, f2, hg, hg2, hb, ea, hn, ec]
    rw [res_rt (leave_tup _ _)]
    unfold pr low
    rw [if_neg hn]
end Mx.K01


set_option linter.all false
set_option maxRecDepth 100000
set_option maxHeartbeats 4000000
set_option exponentiation.threshold 20000
namespace Mx.K01
open PySem PySem.Spec PyProof.Rows L2 Mx
theorem peq_pr (h : MH) (p q : Int × Int) : peq h (pr p) (pr q) = some (decide (p = q)) := by
  obtain ⟨a, b⟩ := p
  obtain ⟨c, d⟩ := q
  unfold peq pr
  simp [scalP, peqD, toD, toDs, SeqAt.shaped, PyData.eqv, PyData.eqvAll, PyData.canLay0, PyData.canLayAll0, PyData.depth, PyData.depthAll]
  rfl
theorem s_is_integer (k : Nat) (h : MH) (i : Int) : call PG (k+1) "is_integer" [.int i] [] [] h = .ok (.bl true) h := by
  rw [call_at pg_is_integer (args_pos rfl)]
  simp [body, q_ev_v, q_ev_non, q_ev_bl, q_ev_int, q_ev_str, q_ev_con, q_ev_tup, q_ev_lst, q_ev_bin, q_ev_neg, q_ev_not, q_ev_cmp, q_ev_chain, q_ev_and, q_ev_or, q_ev_ifx, q_ev_ix, q_ev_sl, q_ev_call, q_ev_blt, q_ev_isi, q_ev_met, q_ev_val, q_evs_nil, q_evs_cons, q_evAnd_cons, q_evAnd_cons2, q_evOr_cons, q_evOr_cons2, q_evIfs_none, q_evIfs_some, q_evo_none, q_evo_some, q_evi_ex, q_run1_ex, q_run1_set, q_run1_put, q_run1_ite, q_run1_whl, q_run1_for, q_run1_ret, q_run1_retN, q_run1_rais, q_run1_try, q_run1_brk, q_run1_cnt, q_run1_pas, q_runs_nil, q_runs_cons, q_runH_nil, q_runH_cons, tst, bltop, bindG, bindGs, cmpop, ofB, truthy, int1, int2, ltop, leop, binop, addop, subop, mulop, divop, modop, powop, ixop, items, litems, mkLst, lenop, intop, isiop, tyOf, putop, src, wipeP, f_is_integer, subB]
  exact res_rt (leave_bl _ _)
theorem s_is_pair (k : Nat) (h : MH) (p : Int × Int) : call PG (k+1) "is_pair" [pr p] [] [] h = .ok (.bl true) h := by
  rw [call_at pg_is_pair (args_pos rfl)]
  simp [body, q_ev_v, q_ev_non, q_ev_bl, q_ev_int, q_ev_str, q_ev_con, q_ev_tup, q_ev_lst, q_ev_bin, q_ev_neg, q_ev_not, q_ev_cmp, q_ev_chain, q_ev_and, q_ev_or, q_ev_ifx, q_ev_ix, q_ev_sl, q_ev_call, q_ev_blt, q_ev_isi, q_ev_met, q_ev_val, q_evs_nil, q_evs_cons, q_evAnd_cons, q_evAnd_cons2, q_evOr_cons, q_evOr_cons2, q_evIfs_none, q_evIfs_some, q_evo_none, q_evo_some, q_evi_ex, q_run1_ex, q_run1_set, q_run1_put, q_run1_ite, q_run1_whl, q_run1_for, q_run1_ret, q_run1_retN, q_run1_rais, q_run1_try, q_run1_brk, q_run1_cnt, q_run1_pas, q_runs_nil, q_runs_cons, q_runH_nil, q_runH_cons, tst, bltop, bindG, bindGs, cmpop, ofB, truthy, int1, int2, ltop, leop, binop, addop, subop, mulop, divop, modop, powop, ixop, items, litems, mkLst, lenop, intop, isiop, tyOf, putop, src, wipeP, f_is_pair, subB, pr, peq, scalP, eqF]
  exact res_rt (leave_bl _ _)
instance (p : Int × Int) : Decidable (IsLow p) := by unfold IsLow; infer_instance
theorem s_is_number (k : Nat) (h : MH) (p : Int × Int) (hs : Sm 8998 p.2) : call PG (k+2) "is_number" [pr p] [] [] h = .ok (.bl (decide (IsLow p))) h := by
  rw [call_at pg_is_number (args_pos rfl)]
  have e1 := s_is_pair k h p
  have e2 := s_is_integer k h p.1
  have e3 := s_is_integer k h p.2
  have e4 := peq_pr h (low p.1 p.2) p
  unfold pr at e1 e4
  by_cases h1 : p.2 < 1
  · have : ¬ IsLow p := fun q => by have := q.1; omega
    simp [body, q_ev_v, q_ev_non, q_ev_bl, q_ev_int, q_ev_str, q_ev_con, q_ev_tup, q_ev_lst, q_ev_bin, q_ev_neg, q_ev_not, q_ev_cmp, q_ev_chain, q_ev_and, q_ev_or, q_ev_ifx, q_ev_ix, q_ev_sl, q_ev_call, q_ev_blt, q_ev_isi, q_ev_met, q_ev_val, q_evs_nil, q_evs_cons, q_evAnd_cons, q_evAnd_cons2, q_evOr_cons, q_evOr_cons2, q_evIfs_none, q_evIfs_some, q_evo_none, q_evo_some, q_evi_ex, q_run1_ex, q_run1_set, q_run1_put, q_run1_ite, q_run1_whl, q_run1_for, q_run1_ret, q_run1_retN, q_run1_rais, q_run1_try, q_run1_brk, q_run1_cnt, q_run1_pas, q_runs_nil, q_runs_cons, q_runH_nil, q_runH_cons, tst, bltop, bindG, bindGs, cmpop, ofB, truthy, int1, int2, ltop, leop, binop, addop, subop, mulop, divop, modop, powop, ixop, items, litems, mkLst, lenop, intop, isiop, tyOf, putop, src, wipeP, f_is_number, pr, e1, e2, e3, h1, this]
    exact res_rt (leave_bl _ _)
  · have e5 := s_lowest k h p.1 p.2 (by omega) hs
    unfold pr at e5
    simp [body, q_ev_v, q_ev_non, q_ev_bl, q_ev_int, q_ev_str, q_ev_con, q_ev_tup, q_ev_lst, q_ev_bin, q_ev_neg, q_ev_not, q_ev_cmp, q_ev_chain, q_ev_and, q_ev_or, q_ev_ifx, q_ev_ix, q_ev_sl, q_ev_call, q_ev_blt, q_ev_isi, q_ev_met, q_ev_val, q_evs_nil, q_evs_cons, q_evAnd_cons, q_evAnd_cons2, q_evOr_cons, q_evOr_cons2, q_evIfs_none, q_evIfs_some, q_evo_none, q_evo_some, q_evi_ex, q_run1_ex, q_run1_set, q_run1_put, q_run1_ite, q_run1_whl, q_run1_for, q_run1_ret, q_run1_retN, q_run1_rais, q_run1_try, q_run1_brk, q_run1_cnt, q_run1_pas, q_runs_nil, q_runs_cons, q_runH_nil, q_runH_cons, tst, bltop, bindG, bindGs, cmpop, ofB, truthy, int1, int2, ltop, leop, binop, addop, subop, mulop, divop, modop, powop, ixop, items, litems, mkLst, lenop, intop, isiop, tyOf, putop, src, wipeP, f_is_number, pr, e1, e2, e3, h1, e5, e4]
    rw [res_rt (leave_bl _ _)]
    have : (low p.1 p.2 = p) ↔ IsLow p := ⟨fun q => low_eq (by omega) q, low_self⟩
    simp [this]
theorem s_check2 (k : Nat) (h : MH) (p q : Int × Int) (hp : IsLow p) (hq : IsLow q) (h1 : Sm 8998 p.2) (h2 : Sm 8998 q.2) : call PG (k+3) "check_numbers" [.tup [pr p, pr q]] [] [] h = .ok .non h := by
  rw [call_at pg_check_numbers (args_pos rfl)]
  have e1 := s_is_number k h p h1
  have e2 := s_is_number k h q h2
  simp [body, q_ev_v, q_ev_non, q_ev_bl, q_ev_int, q_ev_str, q_ev_con, q_ev_tup, q_ev_lst, q_ev_bin, q_ev_neg, q_ev_not, q_ev_cmp, q_ev_chain, q_ev_and, q_ev_or, q_ev_ifx, q_ev_ix, q_ev_sl, q_ev_call, q_ev_blt, q_ev_isi, q_ev_met, q_ev_val, q_evs_nil, q_evs_cons, q_evAnd_cons, q_evAnd_cons2, q_evOr_cons, q_evOr_cons2, q_evIfs_none, q_evIfs_some, q_evo_none, q_evo_some, q_evi_ex, q_run1_ex, q_run1_set, q_run1_put, q_run1_ite, q_run1_whl, q_run1_for, q_run1_ret, q_run1_retN, q_run1_rais, q_run1_try, q_run1_brk, q_run1_cnt, q_run1_pas, q_runs_nil, q_runs_cons, q_runH_nil, q_runH_cons, tst, bltop, bindG, bindGs, cmpop, ofB, truthy, int1, int2, ltop, leop, binop, addop, subop, mulop, divop, modop, powop, ixop, items, litems, mkLst, lenop, intop, isiop, tyOf, putop, src, wipeP, f_check_numbers, l_check_numbers_1, e1, e2, hp, hq]
  exact res_nx (leave_non _)
theorem s_check1 (k : Nat) (h : MH) (p : Int × Int) (hp : IsLow p) (h1 : Sm 8998 p.2) : call PG (k+3) "check_numbers" [.tup [pr p]] [] [] h = .ok .non h := by
  rw [call_at pg_check_numbers (args_pos rfl)]
  have e1 := s_is_number k h p h1
  simp [body, q_ev_v, q_ev_non, q_ev_bl, q_ev_int, q_ev_str, q_ev_con, q_ev_tup, q_ev_lst, q_ev_bin, q_ev_neg, q_ev_not, q_ev_cmp, q_ev_chain, q_ev_and, q_ev_or, q_ev_ifx, q_ev_ix, q_ev_sl, q_ev_call, q_ev_blt, q_ev_isi, q_ev_met, q_ev_val, q_evs_nil, q_evs_cons, q_evAnd_cons, q_evAnd_cons2, q_evOr_cons, q_evOr_cons2, q_evIfs_none, q_evIfs_some, q_evo_none, q_evo_some, q_evi_ex, q_run1_ex, q_run1_set, q_run1_put, q_run1_ite, q_run1_whl, q_run1_for, q_run1_ret, q_run1_retN, q_run1_rais, q_run1_try, q_run1_brk, q_run1_cnt, q_run1_pas, q_runs_nil, q_runs_cons, q_runH_nil, q_runH_cons, tst, bltop, bindG, bindGs, cmpop, ofB, truthy, int1, int2, ltop, leop, binop, addop, subop, mulop, divop, modop, powop, ixop, items, litems, mkLst, lenop, intop, isiop, tyOf, putop, src, wipeP, f_check_numbers, l_check_numbers_1, e1, hp]
  exact res_nx (leave_non _)
/-! sums -/
def add (p q : Int × Int) : Int × Int := low (p.1 * q.2 + q.1 * p.2) (p.2 * q.2)
def mul (p q : Int × Int) : Int × Int := low (p.1 * q.1) (p.2 * q.2)
def quo (p q : Int × Int) : Int × Int := low (p.1 * q.2) (p.2 * q.1)
def neg (p : Int × Int) : Int × Int := (-p.1, p.2)
/-- a pair that is small -/
def SmP (p : Int × Int) : Prop := Sm 4400 p.1 ∧ Sm 4400 p.2
theorem Sm.mul {n m : Nat} {i j : Int} (h1 : Sm n i) (h2 : Sm m j) : Sm (n + m) (i * j) := by
  unfold Sm at *
  rw [Int.natAbs_mul, Nat.pow_add]
  exact Nat.mul_lt_mul'' h1 h2
theorem Sm.add {n : Nat} {i j : Int} (h1 : Sm n i) (h2 : Sm n j) : Sm (n + 1) (i + j) := by
  unfold Sm at *
  rw [Nat.pow_succ]
  omega
theorem Sm.neg {n : Nat} {i : Int} (h : Sm n i) : Sm n (-i) := by
  unfold Sm at *
  rwa [Int.natAbs_neg]
theorem beq_f {i j : Int} (h : i ≠ j) : (i == j) = false := beq_eq_false_iff_ne.mpr h
theorem s_sum (k : Nat) (h : MH) (p q : Int × Int) (hp : 0 < p.2) (hq : 0 < q.2) (h1 : SmP p) (h2 : SmP q) : call PG (k+2) "sum_of_two" [pr p, pr q] [] [] h = .ok (pr (add p q)) h := by
  rw [call_at pg_sum_of_two (args_pos rfl)]
  obtain ⟨a, b⟩ := p
  obtain ⟨c, d⟩ := q
  dsimp only at hp hq
  have m1 : fits a d := (h1.1.up).fits (h2.2.up)
  have m2 : fits c b := (h2.1.up).fits (h1.2.up)
  have m3 : fits b d := (h1.2.up).fits (h2.2.up)
  have e := s_lowest k h (a * d + c * b) (b * d) (Int.ne_of_gt (Int.mul_pos hp hq)) (Sm.up (Sm.mul h1.2 h2.2))
  by_cases c1 : b = 1
  · subst c1
    by_cases c2 : d = 1
    · subst c2
      have : add (a, 1) (c, 1) = (a + c, 1) := by
        show low (a * 1 + c * 1) (1 * 1) = _
        rw [Int.mul_one, Int.mul_one, Int.mul_one]; exact low_one _
      rw [this]
      simp [body, q_ev_v, q_ev_non, q_ev_bl, q_ev_int, q_ev_str, q_ev_con, q_ev_tup, q_ev_lst, q_ev_bin, q_ev_neg, q_ev_not, q_ev_cmp, q_ev_chain, q_ev_and, q_ev_or, q_ev_ifx, q_ev_ix, q_ev_sl, q_ev_call, q_ev_blt, q_ev_isi, q_ev_met, q_ev_val, q_evs_nil, q_evs_cons, q_evAnd_cons, q_evAnd_cons2, q_evOr_cons, q_evOr_cons2, q_evIfs_none, q_evIfs_some, q_evo_none, q_evo_some, q_evi_ex, q_run1_ex, q_run1_set, q_run1_put, q_run1_ite, q_run1_whl, q_run1_for, q_run1_ret, q_run1_retN, q_run1_rais, q_run1_try, q_run1_brk, q_run1_cnt, q_run1_pas, q_runs_nil, q_runs_cons, q_runH_nil, q_runH_cons, tst, bltop, bindG, bindGs, cmpop, ofB, truthy, int1, int2, ltop, leop, binop, addop, subop, mulop, divop, modop, powop, ixop, items, litems, mkLst, lenop, intop, isiop, tyOf, putop, src, wipeP, f_sum_of_two, pr, peq, scalP, eqF]
      exact res_rt (leave_tup _ _)
    · have c2' := beq_f c2
      simp only [Int.one_mul, Int.mul_one] at e
      simp [body, q_ev_v, q_ev_non, q_ev_bl, q_ev_int, q_ev_str, q_ev_con, q_ev_tup, q_ev_lst, q_ev_bin, q_ev_neg, q_ev_not, q_ev_cmp, q_ev_chain, q_ev_and, q_ev_or, q_ev_ifx, q_ev_ix, q_ev_sl, q_ev_call, q_ev_blt, q_ev_isi, q_ev_met, q_ev_val, q_evs_nil, q_evs_cons, q_evAnd_cons, q_evAnd_cons2, q_evOr_cons, q_evOr_cons2, q_evIfs_none, q_evIfs_some, q_evo_none, q_evo_some, q_evi_ex, q_run1_ex, q_run1_set, q_run1_put, q_run1_ite, q_run1_whl, q_run1_for, q_run1_ret, q_run1_retN, q_run1_rais, q_run1_try, q_run1_brk, q_run1_cnt, q_run1_pas, q_runs_nil, q_runs_cons, q_runH_nil, q_runH_cons, tst, bltop, bindG, bindGs, cmpop, ofB, truthy, int1, int2, ltop, leop, binop, addop, subop, mulop, divop, modop, powop, ixop, items, litems, mkLst, lenop, intop, isiop, tyOf, putop, src, wipeP, f_sum_of_two, pr, peq, scalP, eqF, c2', m1, m2, m3, e]
      rw [res_rt (leave_tup _ _)]
      simp [add]
  · have c1' := beq_f c1
    simp [body, q_ev_v, q_ev_non, q_ev_bl, q_ev_int, q_ev_str, q_ev_con, q_ev_tup, q_ev_lst, q_ev_bin, q_ev_neg, q_ev_not, q_ev_cmp, q_ev_chain, q_ev_and, q_ev_or, q_ev_ifx, q_ev_ix, q_ev_sl, q_ev_call, q_ev_blt, q_ev_isi, q_ev_met, q_ev_val, q_evs_nil, q_evs_cons, q_evAnd_cons, q_evAnd_cons2, q_evOr_cons, q_evOr_cons2, q_evIfs_none, q_evIfs_some, q_evo_none, q_evo_some, q_evi_ex, q_run1_ex, q_run1_set, q_run1_put, q_run1_ite, q_run1_whl, q_run1_for, q_run1_ret, q_run1_retN, q_run1_rais, q_run1_try, q_run1_brk, q_run1_cnt, q_run1_pas, q_runs_nil, q_runs_cons, q_runH_nil, q_runH_cons, tst, bltop, bindG, bindGs, cmpop, ofB, truthy, int1, int2, ltop, leop, binop, addop, subop, mulop, divop, modop, powop, ixop, items, litems, mkLst, lenop, intop, isiop, tyOf, putop, src, wipeP, f_sum_of_two, pr, peq, scalP, eqF, c1', m1, m2, m3, e]
    rw [res_rt (leave_tup _ _)]
    simp [add]
end Mx.K01


set_option linter.all false
set_option maxRecDepth 100000
set_option maxHeartbeats 4000000
set_option exponentiation.threshold 20000
namespace Mx.K01
open PySem PySem.Spec PyProof.Rows L2 Mx
theorem s_opposite (k : Nat) (h : MH) (p : Int × Int) : call PG (k+1) "opposite" [pr p] [] [] h = .ok (pr (neg p)) h := by
  rw [call_at pg_opposite (args_pos rfl)]
  simp [body, q_ev_v, q_ev_non, q_ev_bl, q_ev_int, q_ev_str, q_ev_con, q_ev_tup, q_ev_lst, q_ev_bin, q_ev_neg, q_ev_not, q_ev_cmp, q_ev_chain, q_ev_and, q_ev_or, q_ev_ifx, q_ev_ix, q_ev_sl, q_ev_call, q_ev_blt, q_ev_isi, q_ev_met, q_ev_val, q_evs_nil, q_evs_cons, q_evAnd_cons, q_evAnd_cons2, q_evOr_cons, q_evOr_cons2, q_evIfs_none, q_evIfs_some, q_evo_none, q_evo_some, q_evi_ex, q_run1_ex, q_run1_set, q_run1_put, q_run1_ite, q_run1_whl, q_run1_for, q_run1_ret, q_run1_retN, q_run1_rais, q_run1_try, q_run1_brk, q_run1_cnt, q_run1_pas, q_runs_nil, q_runs_cons, q_runH_nil, q_runH_cons, tst, bltop, bindG, bindGs, cmpop, ofB, truthy, int1, int2, ltop, leop, binop, addop, subop, mulop, divop, modop, powop, ixop, items, litems, mkLst, lenop, intop, isiop, tyOf, putop, src, wipeP, f_opposite, pr]
  exact res_rt (leave_tup _ _)
theorem SmP.neg {p : Int × Int} (h : SmP p) : SmP (neg p) := ⟨Sm.neg h.1, h.2⟩
theorem s_difference (k : Nat) (h : MH) (p q : Int × Int) (hp : 0 < p.2) (hq : 0 < q.2) (h1 : SmP p) (h2 : SmP q) : call PG (k+3) "difference" [pr p, pr q] [] [] h = .ok (pr (add p (neg q))) h := by
  rw [call_at pg_difference (args_pos rfl)]
  have e1 := s_opposite (k+1) h q
  have e2 := s_sum k h p (neg q) hp hq h1 h2.neg
  simp [body, q_ev_v, q_ev_non, q_ev_bl, q_ev_int, q_ev_str, q_ev_con, q_ev_tup, q_ev_lst, q_ev_bin, q_ev_neg, q_ev_not, q_ev_cmp, q_ev_chain, q_ev_and, q_ev_or, q_ev_ifx, q_ev_ix, q_ev_sl, q_ev_call, q_ev_blt, q_ev_isi, q_ev_met, q_ev_val, q_evs_nil, q_evs_cons, q_evAnd_cons, q_evAnd_cons2, q_evOr_cons, q_evOr_cons2, q_evIfs_none, q_evIfs_some, q_evo_none, q_evo_some, q_evi_ex, q_run1_ex, q_run1_set, q_run1_put, q_run1_ite, q_run1_whl, q_run1_for, q_run1_ret, q_run1_retN, q_run1_rais, q_run1_try, q_run1_brk, q_run1_cnt, q_run1_pas, q_runs_nil, q_runs_cons, q_runH_nil, q_runH_cons, tst, bltop, bindG, bindGs, cmpop, ofB, truthy, int1, int2, ltop, leop, binop, addop, subop, mulop, divop, modop, powop, ixop, items, litems, mkLst, lenop, intop, isiop, tyOf, putop, src, wipeP, f_difference, e1, e2]
  exact res_rt (leave_tup _ _)
theorem s_product (k : Nat) (h : MH) (p q : Int × Int) (hp : 0 < p.2) (hq : 0 < q.2) (h1 : SmP p) (h2 : SmP q) : call PG (k+2) "product" [pr p, pr q] [] [] h = .ok (pr (mul p q)) h := by
  rw [call_at pg_product (args_pos rfl)]
  obtain ⟨a, b⟩ := p
  obtain ⟨c, d⟩ := q
  dsimp only at hp hq
  have m1 : fits a c := (h1.1.up).fits (h2.1.up)
  have m3 : fits b d := (h1.2.up).fits (h2.2.up)
  have e := s_lowest k h (a * c) (b * d) (Int.ne_of_gt (Int.mul_pos hp hq)) (Sm.up (Sm.mul h1.2 h2.2))
  by_cases c1 : b = 1
  · subst c1
    by_cases c2 : d = 1
    · subst c2
      have : mul (a, 1) (c, 1) = (a * c, 1) := by
        show low (a * c) (1 * 1) = _
        rw [Int.mul_one]; exact low_one _
      rw [this]
      simp [body, q_ev_v, q_ev_non, q_ev_bl, q_ev_int, q_ev_str, q_ev_con, q_ev_tup, q_ev_lst, q_ev_bin, q_ev_neg, q_ev_not, q_ev_cmp, q_ev_chain, q_ev_and, q_ev_or, q_ev_ifx, q_ev_ix, q_ev_sl, q_ev_call, q_ev_blt, q_ev_isi, q_ev_met, q_ev_val, q_evs_nil, q_evs_cons, q_evAnd_cons, q_evAnd_cons2, q_evOr_cons, q_evOr_cons2, q_evIfs_none, q_evIfs_some, q_evo_none, q_evo_some, q_evi_ex, q_run1_ex, q_run1_set, q_run1_put, q_run1_ite, q_run1_whl, q_run1_for, q_run1_ret, q_run1_retN, q_run1_rais, q_run1_try, q_run1_brk, q_run1_cnt, q_run1_pas, q_runs_nil, q_runs_cons, q_runH_nil, q_runH_cons, tst, bltop, bindG, bindGs, cmpop, ofB, truthy, int1, int2, ltop, leop, binop, addop, subop, mulop, divop, modop, powop, ixop, items, litems, mkLst, lenop, intop, isiop, tyOf, putop, src, wipeP, f_product, pr, peq, scalP, eqF, m1]
      exact res_rt (leave_tup _ _)
    · have c2' := beq_f c2
      simp only [Int.one_mul, Int.mul_one] at e
      simp [body, q_ev_v, q_ev_non, q_ev_bl, q_ev_int, q_ev_str, q_ev_con, q_ev_tup, q_ev_lst, q_ev_bin, q_ev_neg, q_ev_not, q_ev_cmp, q_ev_chain, q_ev_and, q_ev_or, q_ev_ifx, q_ev_ix, q_ev_sl, q_ev_call, q_ev_blt, q_ev_isi, q_ev_met, q_ev_val, q_evs_nil, q_evs_cons, q_evAnd_cons, q_evAnd_cons2, q_evOr_cons, q_evOr_cons2, q_evIfs_none, q_evIfs_some, q_evo_none, q_evo_some, q_evi_ex, q_run1_ex, q_run1_set, q_run1_put, q_run1_ite, q_run1_whl, q_run1_for, q_run1_ret, q_run1_retN, q_run1_rais, q_run1_try, q_run1_brk, q_run1_cnt, q_run1_pas, q_runs_nil, q_runs_cons, q_runH_nil, q_runH_cons, tst, bltop, bindG, bindGs, cmpop, ofB, truthy, int1, int2, ltop, leop, binop, addop, subop, mulop, divop, modop, powop, ixop, items, litems, mkLst, lenop, intop, isiop, tyOf, putop, src, wipeP, f_product, pr, peq, scalP, eqF, c2', m1, m3, e]
      rw [res_rt (leave_tup _ _)]
      simp [mul]
  · have c1' := beq_f c1
    simp [body, q_ev_v, q_ev_non, q_ev_bl, q_ev_int, q_ev_str, q_ev_con, q_ev_tup, q_ev_lst, q_ev_bin, q_ev_neg, q_ev_not, q_ev_cmp, q_ev_chain, q_ev_and, q_ev_or, q_ev_ifx, q_ev_ix, q_ev_sl, q_ev_call, q_ev_blt, q_ev_isi, q_ev_met, q_ev_val, q_evs_nil, q_evs_cons, q_evAnd_cons, q_evAnd_cons2, q_evOr_cons, q_evOr_cons2, q_evIfs_none, q_evIfs_some, q_evo_none, q_evo_some, q_evi_ex, q_run1_ex, q_run1_set, q_run1_put, q_run1_ite, q_run1_whl, q_run1_for, q_run1_ret, q_run1_retN, q_run1_rais, q_run1_try, q_run1_brk, q_run1_cnt, q_run1_pas, q_runs_nil, q_runs_cons, q_runH_nil, q_runH_cons, tst, bltop, bindG, bindGs, cmpop, ofB, truthy, int1, int2, ltop, leop, binop, addop, subop, mulop, divop, modop, powop, ixop, items, litems, mkLst, lenop, intop, isiop, tyOf, putop, src, wipeP, f_product, pr, peq, scalP, eqF, c1', m1, m3, e]
    rw [res_rt (leave_tup _ _)]
    simp [mul]
theorem s_quotient (k : Nat) (h : MH) (p q : Int × Int) (hp : 0 < p.2) (hq : q.1 ≠ 0) (h1 : SmP p) (h2 : SmP q) : call PG (k+2) "quotient" [pr p, pr q] [] [] h = .ok (pr (quo p q)) h := by
  rw [call_at pg_quotient (args_pos rfl)]
  obtain ⟨a, b⟩ := p
  obtain ⟨c, d⟩ := q
  dsimp only at hp hq
  have m1 : fits a d := (h1.1.up).fits (h2.2.up)
  have m2 : fits b c := (h1.2.up).fits (h2.1.up)
  have m3 : fits a c := (h1.1.up).fits (h2.1.up)
  have e := s_lowest k h (a * d) (b * c) (Int.mul_ne_zero (Int.ne_of_gt hp) hq) (Sm.up (Sm.mul h1.2 h2.1))
  simp [body, q_ev_v, q_ev_non, q_ev_bl, q_ev_int, q_ev_str, q_ev_con, q_ev_tup, q_ev_lst, q_ev_bin, q_ev_neg, q_ev_not, q_ev_cmp, q_ev_chain, q_ev_and, q_ev_or, q_ev_ifx, q_ev_ix, q_ev_sl, q_ev_call, q_ev_blt, q_ev_isi, q_ev_met, q_ev_val, q_evs_nil, q_evs_cons, q_evAnd_cons, q_evAnd_cons2, q_evOr_cons, q_evOr_cons2, q_evIfs_none, q_evIfs_some, q_evo_none, q_evo_some, q_evi_ex, q_run1_ex, q_run1_set, q_run1_put, q_run1_ite, q_run1_whl, q_run1_for, q_run1_ret, q_run1_retN, q_run1_rais, q_run1_try, q_run1_brk, q_run1_cnt, q_run1_pas, q_runs_nil, q_runs_cons, q_runH_nil, q_runH_cons, tst, bltop, bindG, bindGs, cmpop, ofB, truthy, int1, int2, ltop, leop, binop, addop, subop, mulop, divop, modop, powop, ixop, items, litems, mkLst, lenop, intop, isiop, tyOf, putop, src, wipeP, f_quotient, pr, m1, m2, m3, e]
  rw [res_rt (leave_tup _ _)]
  simp [quo]
theorem s_is_less (k : Nat) (h : MH) (p q : Int × Int) (h1 : SmP p) (h2 : SmP q) : call PG (k+1) "is_less" [pr p, pr q] [] [] h = .ok (.bl (decide (p.1 * q.2 < q.1 * p.2))) h := by
  rw [call_at pg_is_less (args_pos rfl)]
  have m1 : fits p.1 q.2 := (h1.1.up).fits (h2.2.up)
  have m2 : fits q.1 p.2 := (h2.1.up).fits (h1.2.up)
  simp [body, q_ev_v, q_ev_non, q_ev_bl, q_ev_int, q_ev_str, q_ev_con, q_ev_tup, q_ev_lst, q_ev_bin, q_ev_neg, q_ev_not, q_ev_cmp, q_ev_chain, q_ev_and, q_ev_or, q_ev_ifx, q_ev_ix, q_ev_sl, q_ev_call, q_ev_blt, q_ev_isi, q_ev_met, q_ev_val, q_evs_nil, q_evs_cons, q_evAnd_cons, q_evAnd_cons2, q_evOr_cons, q_evOr_cons2, q_evIfs_none, q_evIfs_some, q_evo_none, q_evo_some, q_evi_ex, q_run1_ex, q_run1_set, q_run1_put, q_run1_ite, q_run1_whl, q_run1_for, q_run1_ret, q_run1_retN, q_run1_rais, q_run1_try, q_run1_brk, q_run1_cnt, q_run1_pas, q_runs_nil, q_runs_cons, q_runH_nil, q_runH_cons, tst, bltop, bindG, bindGs, cmpop, ofB, truthy, int1, int2, ltop, leop, binop, addop, subop, mulop, divop, modop, powop, ixop, items, litems, mkLst, lenop, intop, isiop, tyOf, putop, src, wipeP, f_is_less, pr, m1, m2]
  exact res_rt (leave_bl _ _)
theorem s_number (k : Nat) (h : MH) (t b : Int) (hb : b ≠ 0) (hs : Sm 8998 b) : call PG (k+2) "number" [.int t, .int b] [] [] h = .ok (pr (low t b)) h := by
  rw [call_at pg_number (args_pos rfl)]
  have e := s_lowest k h t b hb hs
  have hb' := beq_f hb
  simp [body, q_ev_v, q_ev_non, q_ev_bl, q_ev_int, q_ev_str, q_ev_con, q_ev_tup, q_ev_lst, q_ev_bin, q_ev_neg, q_ev_not, q_ev_cmp, q_ev_chain, q_ev_and, q_ev_or, q_ev_ifx, q_ev_ix, q_ev_sl, q_ev_call, q_ev_blt, q_ev_isi, q_ev_met, q_ev_val, q_evs_nil, q_evs_cons, q_evAnd_cons, q_evAnd_cons2, q_evOr_cons, q_evOr_cons2, q_evIfs_none, q_evIfs_some, q_evo_none, q_evo_some, q_evi_ex, q_run1_ex, q_run1_set, q_run1_put, q_run1_ite, q_run1_whl, q_run1_for, q_run1_ret, q_run1_retN, q_run1_rais, q_run1_try, q_run1_brk, q_run1_cnt, q_run1_pas, q_runs_nil, q_runs_cons, q_runH_nil, q_runH_cons, tst, bltop, bindG, bindGs, cmpop, ofB, truthy, int1, int2, ltop, leop, binop, addop, subop, mulop, divop, modop, powop, ixop, items, litems, mkLst, lenop, intop, isiop, tyOf, putop, src, wipeP, f_number, e, peq, scalP, eqF, hb']
  exact res_rt (leave_tup _ _)
theorem s_number0 (k : Nat) (h : MH) (t : Int) : call PG (k+1) "number" [.int t, .int 0] [] [] h = .exn "DividedByZero" (.int t) h := by
  rw [call_at pg_number (args_pos rfl)]
  simp [body, q_ev_v, q_ev_non, q_ev_bl, q_ev_int, q_ev_str, q_ev_con, q_ev_tup, q_ev_lst, q_ev_bin, q_ev_neg, q_ev_not, q_ev_cmp, q_ev_chain, q_ev_and, q_ev_or, q_ev_ifx, q_ev_ix, q_ev_sl, q_ev_call, q_ev_blt, q_ev_isi, q_ev_met, q_ev_val, q_evs_nil, q_evs_cons, q_evAnd_cons, q_evAnd_cons2, q_evOr_cons, q_evOr_cons2, q_evIfs_none, q_evIfs_some, q_evo_none, q_evo_some, q_evi_ex, q_run1_ex, q_run1_set, q_run1_put, q_run1_ite, q_run1_whl, q_run1_for, q_run1_ret, q_run1_retN, q_run1_rais, q_run1_try, q_run1_brk, q_run1_cnt, q_run1_pas, q_runs_nil, q_runs_cons, q_runH_nil, q_runH_cons, tst, bltop, bindG, bindGs, cmpop, ofB, truthy, int1, int2, ltop, leop, binop, addop, subop, mulop, divop, modop, powop, ixop, items, litems, mkLst, lenop, intop, isiop, tyOf, putop, src, wipeP, f_number, peq, scalP, eqF]
  exact res_exn (leave_int _ _)
theorem s_plus (k : Nat) (h : MH) (p q : Int × Int) (hp : IsLow p) (hq : IsLow q) (h1 : SmP p) (h2 : SmP q) : call PG (k+4) "plus" [pr p, pr q] [] [] h = .ok (pr (add p q)) h := by
  rw [call_at pg_plus (args_pos rfl)]
  have e1 := s_check2 k h p q hp hq h1.2.up h2.2.up
  have e2 := s_sum (k+1) h p q hp.1 hq.1 h1 h2
  simp [body, q_ev_v, q_ev_non, q_ev_bl, q_ev_int, q_ev_str, q_ev_con, q_ev_tup, q_ev_lst, q_ev_bin, q_ev_neg, q_ev_not, q_ev_cmp, q_ev_chain, q_ev_and, q_ev_or, q_ev_ifx, q_ev_ix, q_ev_sl, q_ev_call, q_ev_blt, q_ev_isi, q_ev_met, q_ev_val, q_evs_nil, q_evs_cons, q_evAnd_cons, q_evAnd_cons2, q_evOr_cons, q_evOr_cons2, q_evIfs_none, q_evIfs_some, q_evo_none, q_evo_some, q_evi_ex, q_run1_ex, q_run1_set, q_run1_put, q_run1_ite, q_run1_whl, q_run1_for, q_run1_ret, q_run1_retN, q_run1_rais, q_run1_try, q_run1_brk, q_run1_cnt, q_run1_pas, q_runs_nil, q_runs_cons, q_runH_nil, q_runH_cons, tst, bltop, bindG, bindGs, cmpop, ofB, truthy, int1, int2, ltop, leop, binop, addop, subop, mulop, divop, modop, powop, ixop, items, litems, mkLst, lenop, intop, isiop, tyOf, putop, src, wipeP, f_plus, e1, e2]
  exact res_rt (leave_tup _ _)
theorem s_minus (k : Nat) (h : MH) (p q : Int × Int) (hp : IsLow p) (hq : IsLow q) (h1 : SmP p) (h2 : SmP q) : call PG (k+4) "minus" [pr p, pr q] [] [] h = .ok (pr (add p (neg q))) h := by
  rw [call_at pg_minus (args_pos rfl)]
  have e1 := s_check2 k h p q hp hq h1.2.up h2.2.up
  have e2 := s_difference k h p q hp.1 hq.1 h1 h2
  simp [body, q_ev_v, q_ev_non, q_ev_bl, q_ev_int, q_ev_str, q_ev_con, q_ev_tup, q_ev_lst, q_ev_bin, q_ev_neg, q_ev_not, q_ev_cmp, q_ev_chain, q_ev_and, q_ev_or, q_ev_ifx, q_ev_ix, q_ev_sl, q_ev_call, q_ev_blt, q_ev_isi, q_ev_met, q_ev_val, q_evs_nil, q_evs_cons, q_evAnd_cons, q_evAnd_cons2, q_evOr_cons, q_evOr_cons2, q_evIfs_none, q_evIfs_some, q_evo_none, q_evo_some, q_evi_ex, q_run1_ex, q_run1_set, q_run1_put, q_run1_ite, q_run1_whl, q_run1_for, q_run1_ret, q_run1_retN, q_run1_rais, q_run1_try, q_run1_brk, q_run1_cnt, q_run1_pas, q_runs_nil, q_runs_cons, q_runH_nil, q_runH_cons, tst, bltop, bindG, bindGs, cmpop, ofB, truthy, int1, int2, ltop, leop, binop, addop, subop, mulop, divop, modop, powop, ixop, items, litems, mkLst, lenop, intop, isiop, tyOf, putop, src, wipeP, f_minus, e1, e2]
  exact res_rt (leave_tup _ _)
theorem s_times (k : Nat) (h : MH) (p q : Int × Int) (hp : IsLow p) (hq : IsLow q) (h1 : SmP p) (h2 : SmP q) : call PG (k+4) "times" [pr p, pr q] [] [] h = .ok (pr (mul p q)) h := by
  rw [call_at pg_times (args_pos rfl)]
  have e1 := s_check2 k h p q hp hq h1.2.up h2.2.up
  have e2 := s_product (k+1) h p q hp.1 hq.1 h1 h2
  simp [body, q_ev_v, q_ev_non, q_ev_bl, q_ev_int, q_ev_str, q_ev_con, q_ev_tup, q_ev_lst, q_ev_bin, q_ev_neg, q_ev_not, q_ev_cmp, q_ev_chain, q_ev_and, q_ev_or, q_ev_ifx, q_ev_ix, q_ev_sl, q_ev_call, q_ev_blt, q_ev_isi, q_ev_met, q_ev_val, q_evs_nil, q_evs_cons, q_evAnd_cons, q_evAnd_cons2, q_evOr_cons, q_evOr_cons2, q_evIfs_none, q_evIfs_some, q_evo_none, q_evo_some, q_evi_ex, q_run1_ex, q_run1_set, q_run1_put, q_run1_ite, q_run1_whl, q_run1_for, q_run1_ret, q_run1_retN, q_run1_rais, q_run1_try, q_run1_brk, q_run1_cnt, q_run1_pas, q_runs_nil, q_runs_cons, q_runH_nil, q_runH_cons, tst, bltop, bindG, bindGs, cmpop, ofB, truthy, int1, int2, ltop, leop, binop, addop, subop, mulop, divop, modop, powop, ixop, items, litems, mkLst, lenop, intop, isiop, tyOf, putop, src, wipeP, f_times, e1, e2]
  exact res_rt (leave_tup _ _)
theorem con_ZERO : PG.con "ZERO" = some (pr (0, 1)) := by rfl
theorem s_by (k : Nat) (h : MH) (p q : Int × Int) (hp : IsLow p) (hq : IsLow q) (h1 : SmP p) (h2 : SmP q) (h0 : q.1 ≠ 0) : call PG (k+4) "by" [pr p, pr q] [] [] h = .ok (pr (quo p q)) h := by
  rw [call_at pg_by (args_pos rfl)]
  have e1 := s_check2 k h p q hp hq h1.2.up h2.2.up
  have e2 := s_quotient (k+1) h p q hp.1 h0 h1 h2
  have e3 := peq_pr h q (0, 1)
  have e4 : decide (q = (0, 1)) = false := decide_eq_false fun e => h0 (by rw [e])
  rw [e4] at e3
  simp [body, q_ev_v, q_ev_non, q_ev_bl, q_ev_int, q_ev_str, q_ev_con, q_ev_tup, q_ev_lst, q_ev_bin, q_ev_neg, q_ev_not, q_ev_cmp, q_ev_chain, q_ev_and, q_ev_or, q_ev_ifx, q_ev_ix, q_ev_sl, q_ev_call, q_ev_blt, q_ev_isi, q_ev_met, q_ev_val, q_evs_nil, q_evs_cons, q_evAnd_cons, q_evAnd_cons2, q_evOr_cons, q_evOr_cons2, q_evIfs_none, q_evIfs_some, q_evo_none, q_evo_some, q_evi_ex, q_run1_ex, q_run1_set, q_run1_put, q_run1_ite, q_run1_whl, q_run1_for, q_run1_ret, q_run1_retN, q_run1_rais, q_run1_try, q_run1_brk, q_run1_cnt, q_run1_pas, q_runs_nil, q_runs_cons, q_runH_nil, q_runH_cons, tst, bltop, bindG, bindGs, cmpop, ofB, truthy, int1, int2, ltop, leop, binop, addop, subop, mulop, divop, modop, powop, ixop, items, litems, mkLst, lenop, intop, isiop, tyOf, putop, src, wipeP, f_by, e1, e2, con_ZERO, e3]
  exact res_rt (leave_tup _ _)
theorem low01 : IsLow (0, 1) := ⟨by show (0 : Int) < 1; decide, by decide⟩
theorem s_by0 (k : Nat) (h : MH) (p : Int × Int) (hp : IsLow p) (h1 : SmP p) : call PG (k+4) "by" [pr p, pr (0, 1)] [] [] h = .exn "DividedByZero" (pr p) h := by
  rw [call_at pg_by (args_pos rfl)]
  have e1 := s_check2 k h p (0, 1) hp low01 h1.2.up (by show (1 : Int).natAbs < 2 ^ 8998; decide)
  have e3 := peq_pr h (0, 1) (0, 1)
  simp [body, q_ev_v, q_ev_non, q_ev_bl, q_ev_int, q_ev_str, q_ev_con, q_ev_tup, q_ev_lst, q_ev_bin, q_ev_neg, q_ev_not, q_ev_cmp, q_ev_chain, q_ev_and, q_ev_or, q_ev_ifx, q_ev_ix, q_ev_sl, q_ev_call, q_ev_blt, q_ev_isi, q_ev_met, q_ev_val, q_evs_nil, q_evs_cons, q_evAnd_cons, q_evAnd_cons2, q_evOr_cons, q_evOr_cons2, q_evIfs_none, q_evIfs_some, q_evo_none, q_evo_some, q_evi_ex, q_run1_ex, q_run1_set, q_run1_put, q_run1_ite, q_run1_whl, q_run1_for, q_run1_ret, q_run1_retN, q_run1_rais, q_run1_try, q_run1_brk, q_run1_cnt, q_run1_pas, q_runs_nil, q_runs_cons, q_runH_nil, q_runH_cons, tst, bltop, bindG, bindGs, cmpop, ofB, truthy, int1, int2, ltop, leop, binop, addop, subop, mulop, divop, modop, powop, ixop, items, litems, mkLst, lenop, intop, isiop, tyOf, putop, src, wipeP, f_by, e1, con_ZERO, e3]
  exact res_exn (leave_tup _ _)
theorem s_size (k : Nat) (h : MH) (p : Int × Int) (hp : IsLow p) (h1 : SmP p) : call PG (k+4) "size" [pr p] [] [] h = .ok (pr ((p.1.natAbs : Int), p.2)) h := by
  rw [call_at pg_size (args_pos rfl)]
  have e1 := s_check1 k h p hp h1.2.up
  have e2 : call PG (k+3) "size_of" [pr p] [] [] h = .ok (pr ((p.1.natAbs : Int), p.2)) h := by
    rw [call_at pg_size_of (args_pos rfl)]
    have ea : (if p.1 < 0 then -p.1 else p.1) = (p.1.natAbs : Int) := by split <;> omega
    simp [body, q_ev_v, q_ev_non, q_ev_bl, q_ev_int, q_ev_str, q_ev_con, q_ev_tup, q_ev_lst, q_ev_bin, q_ev_neg, q_ev_not, q_ev_cmp, q_ev_chain, q_ev_and, q_ev_or, q_ev_ifx, q_ev_ix, q_ev_sl, q_ev_call, q_ev_blt, q_ev_isi, q_ev_met, q_ev_val, q_evs_nil, q_evs_cons, q_evAnd_cons, q_evAnd_cons2, q_evOr_cons, q_evOr_cons2, q_evIfs_none, q_evIfs_some, q_evo_none, q_evo_some, q_evi_ex, q_run1_ex, q_run1_set, q_run1_put, q_run1_ite, q_run1_whl, q_run1_for, q_run1_ret, q_run1_retN, q_run1_rais, q_run1_try, q_run1_brk, q_run1_cnt, q_run1_pas, q_runs_nil, q_runs_cons, q_runH_nil, q_runH_cons, tst, bltop, bindG, bindGs, cmpop, ofB, truthy, int1, int2, ltop, leop, binop, addop, subop, mulop, divop, modop, powop, ixop, items, litems, mkLst, lenop, intop, isiop, tyOf, putop, src, wipeP, f_size_of, pr, ea]
    exact res_rt (leave_tup _ _)
  simp [body, q_ev_v, q_ev_non, q_ev_bl, q_ev_int, q_ev_str, q_ev_con, q_ev_tup, q_ev_lst, q_ev_bin, q_ev_neg, q_ev_not, q_ev_cmp, q_ev_chain, q_ev_and, q_ev_or, q_ev_ifx, q_ev_ix, q_ev_sl, q_ev_call, q_ev_blt, q_ev_isi, q_ev_met, q_ev_val, q_evs_nil, q_evs_cons, q_evAnd_cons, q_evAnd_cons2, q_evOr_cons, q_evOr_cons2, q_evIfs_none, q_evIfs_some, q_evo_none, q_evo_some, q_evi_ex, q_run1_ex, q_run1_set, q_run1_put, q_run1_ite, q_run1_whl, q_run1_for, q_run1_ret, q_run1_retN, q_run1_rais, q_run1_try, q_run1_brk, q_run1_cnt, q_run1_pas, q_runs_nil, q_runs_cons, q_runH_nil, q_runH_cons, tst, bltop, bindG, bindGs, cmpop, ofB, truthy, int1, int2, ltop, leop, binop, addop, subop, mulop, divop, modop, powop, ixop, items, litems, mkLst, lenop, intop, isiop, tyOf, putop, src, wipeP, f_size, e1, e2]
  exact res_rt (leave_tup _ _)
def sgn (p : Int × Int) : Int := if p.1 = 0 then 0 else if 0 < p.1 then 1 else -1
theorem s_sign (k : Nat) (h : MH) (p : Int × Int) (hp : IsLow p) (h1 : SmP p) : call PG (k+4) "sign" [pr p] [] [] h = .ok (.int (sgn p)) h := by
  rw [call_at pg_sign (args_pos rfl)]
  have e1 := s_check1 k h p hp h1.2.up
  obtain ⟨a, b⟩ := p
  unfold sgn
  unfold pr at e1 ⊢
  dsimp only at e1 ⊢
  by_cases c1 : a = 0
  · subst c1
    simp [body, q_ev_v, q_ev_non, q_ev_bl, q_ev_int, q_ev_str, q_ev_con, q_ev_tup, q_ev_lst, q_ev_bin, q_ev_neg, q_ev_not, q_ev_cmp, q_ev_chain, q_ev_and, q_ev_or, q_ev_ifx, q_ev_ix, q_ev_sl, q_ev_call, q_ev_blt, q_ev_isi, q_ev_met, q_ev_val, q_evs_nil, q_evs_cons, q_evAnd_cons, q_evAnd_cons2, q_evOr_cons, q_evOr_cons2, q_evIfs_none, q_evIfs_some, q_evo_none, q_evo_some, q_evi_ex, q_run1_ex, q_run1_set, q_run1_put, q_run1_ite, q_run1_whl, q_run1_for, q_run1_ret, q_run1_retN, q_run1_rais, q_run1_try, q_run1_brk, q_run1_cnt, q_run1_pas, q_runs_nil, q_runs_cons, q_runH_nil, q_runH_cons, tst, bltop, bindG, bindGs, cmpop, ofB, truthy, int1, int2, ltop, leop, binop, addop, subop, mulop, divop, modop, powop, ixop, items, litems, mkLst, lenop, intop, isiop, tyOf, putop, src, wipeP, f_sign, e1, peq, scalP, eqF]
    exact res_rt (leave_int _ _)
  · have c1' := beq_f c1
    by_cases c2 : 0 < a
    · simp [body, q_ev_v, q_ev_non, q_ev_bl, q_ev_int, q_ev_str, q_ev_con, q_ev_tup, q_ev_lst, q_ev_bin, q_ev_neg, q_ev_not, q_ev_cmp, q_ev_chain, q_ev_and, q_ev_or, q_ev_ifx, q_ev_ix, q_ev_sl, q_ev_call, q_ev_blt, q_ev_isi, q_ev_met, q_ev_val, q_evs_nil, q_evs_cons, q_evAnd_cons, q_evAnd_cons2, q_evOr_cons, q_evOr_cons2, q_evIfs_none, q_evIfs_some, q_evo_none, q_evo_some, q_evi_ex, q_run1_ex, q_run1_set, q_run1_put, q_run1_ite, q_run1_whl, q_run1_for, q_run1_ret, q_run1_retN, q_run1_rais, q_run1_try, q_run1_brk, q_run1_cnt, q_run1_pas, q_runs_nil, q_runs_cons, q_runH_nil, q_runH_cons, tst, bltop, bindG, bindGs, cmpop, ofB, truthy, int1, int2, ltop, leop, binop, addop, subop, mulop, divop, modop, powop, ixop, items, litems, mkLst, lenop, intop, isiop, tyOf, putop, src, wipeP, f_sign, e1, peq, scalP, eqF, c1, c1', c2]
      exact res_rt (leave_int _ _)
    · simp [body, q_ev_v, q_ev_non, q_ev_bl, q_ev_int, q_ev_str, q_ev_con, q_ev_tup, q_ev_lst, q_ev_bin, q_ev_neg, q_ev_not, q_ev_cmp, q_ev_chain, q_ev_and, q_ev_or, q_ev_ifx, q_ev_ix, q_ev_sl, q_ev_call, q_ev_blt, q_ev_isi, q_ev_met, q_ev_val, q_evs_nil, q_evs_cons, q_evAnd_cons, q_evAnd_cons2, q_evOr_cons, q_evOr_cons2, q_evIfs_none, q_evIfs_some, q_evo_none, q_evo_some, q_evi_ex, q_run1_ex, q_run1_set, q_run1_put, q_run1_ite, q_run1_whl, q_run1_for, q_run1_ret, q_run1_retN, q_run1_rais, q_run1_try, q_run1_brk, q_run1_cnt, q_run1_pas, q_runs_nil, q_runs_cons, q_runH_nil, q_runH_cons, tst, bltop, bindG, bindGs, cmpop, ofB, truthy, int1, int2, ltop, leop, binop, addop, subop, mulop, divop, modop, powop, ixop, items, litems, mkLst, lenop, intop, isiop, tyOf, putop, src, wipeP, f_sign, e1, peq, scalP, eqF, c1, c1', c2]
      exact res_rt (leave_int _ _)
theorem s_below (k : Nat) (h : MH) (p q : Int × Int) (hp : IsLow p) (hq : IsLow q) (h1 : SmP p) (h2 : SmP q) : call PG (k+4) "below" [pr p, pr q] [] [] h = .ok (.bl (decide (p.1 * q.2 < q.1 * p.2))) h := by
  rw [call_at pg_below (args_pos rfl)]
  have e1 := s_check2 k h p q hp hq h1.2.up h2.2.up
  have e2 := s_is_less (k+2) h p q h1 h2
  simp [body, q_ev_v, q_ev_non, q_ev_bl, q_ev_int, q_ev_str, q_ev_con, q_ev_tup, q_ev_lst, q_ev_bin, q_ev_neg, q_ev_not, q_ev_cmp, q_ev_chain, q_ev_and, q_ev_or, q_ev_ifx, q_ev_ix, q_ev_sl, q_ev_call, q_ev_blt, q_ev_isi, q_ev_met, q_ev_val, q_evs_nil, q_evs_cons, q_evAnd_cons, q_evAnd_cons2, q_evOr_cons, q_evOr_cons2, q_evIfs_none, q_evIfs_some, q_evo_none, q_evo_some, q_evi_ex, q_run1_ex, q_run1_set, q_run1_put, q_run1_ite, q_run1_whl, q_run1_for, q_run1_ret, q_run1_retN, q_run1_rais, q_run1_try, q_run1_brk, q_run1_cnt, q_run1_pas, q_runs_nil, q_runs_cons, q_runH_nil, q_runH_cons, tst, bltop, bindG, bindGs, cmpop, ofB, truthy, int1, int2, ltop, leop, binop, addop, subop, mulop, divop, modop, powop, ixop, items, litems, mkLst, lenop, intop, isiop, tyOf, putop, src, wipeP, f_below, e1, e2]
  exact res_rt (leave_bl _ _)
theorem s_rounded (k : Nat) (h : MH) (p : Int × Int) (hp : IsLow p) (h1 : SmP p) : call PG (k+4) "rounded" [pr p] [] [] h = .ok (.int ((2 * p.1 + p.2).fdiv (2 * p.2))) h := by
  rw [call_at pg_rounded (args_pos rfl)]
  have e1 := s_check1 k h p hp h1.2.up
  have p0 := hp.1
  have m1 : fits 2 p.1 := Sm.fits (show (2 : Int).natAbs < 2 ^ 9000 by decide) h1.1.up
  have m2 : fits 2 p.2 := Sm.fits (show (2 : Int).natAbs < 2 ^ 9000 by decide) h1.2.up
  have m3 : fitd (2 * p.2) := fitd_of (Sm.up (m := 8999) (Sm.mul (n := 2) (show (2 : Int).natAbs < 2 ^ 2 by decide) h1.2))
  have m4 : ¬ p.2 = 0 := by omega
  unfold pr at e1 ⊢
  simp [body, q_ev_v, q_ev_non, q_ev_bl, q_ev_int, q_ev_str, q_ev_con, q_ev_tup, q_ev_lst, q_ev_bin, q_ev_neg, q_ev_not, q_ev_cmp, q_ev_chain, q_ev_and, q_ev_or, q_ev_ifx, q_ev_ix, q_ev_sl, q_ev_call, q_ev_blt, q_ev_isi, q_ev_met, q_ev_val, q_evs_nil, q_evs_cons, q_evAnd_cons, q_evAnd_cons2, q_evOr_cons, q_evOr_cons2, q_evIfs_none, q_evIfs_some, q_evo_none, q_evo_some, q_evi_ex, q_run1_ex, q_run1_set, q_run1_put, q_run1_ite, q_run1_whl, q_run1_for, q_run1_ret, q_run1_retN, q_run1_rais, q_run1_try, q_run1_brk, q_run1_cnt, q_run1_pas, q_runs_nil, q_runs_cons, q_runH_nil, q_runH_cons, tst, bltop, bindG, bindGs, cmpop, ofB, truthy, int1, int2, ltop, leop, binop, addop, subop, mulop, divop, modop, powop, ixop, items, litems, mkLst, lenop, intop, isiop, tyOf, putop, src, wipeP, f_rounded, e1, m1, m2, m3, m4]
  exact res_rt (leave_int _ _)
end Mx.K01


set_option linter.all false
set_option maxRecDepth 100000
set_option maxHeartbeats 4000000
set_option exponentiation.threshold 20000
namespace Mx.K01
open PySem PySem.Spec PyProof.Rows L2 Mx
mutual
def dep : PV → Nat
  | .tup xs => deps xs + 1
  | .lst xs => deps xs + 1
  | _ => 0
def deps : List PV → Nat
  | [] => 0
  | x :: xs => max (dep x) (deps xs)
end
mutual
def dat : PV → Bool
  | .non => true
  | .bl _ => true
  | .int _ => true
  | .str _ => true
  | .tup xs => dats xs && decide (xs.length ≤ 1000)
  | .lst xs => dats xs && decide (xs.length ≤ 1000)
  | _ => false
def dats : List PV → Bool
  | [] => true
  | x :: xs => dat x && dats xs
end
theorem dats_mem : ∀ {xs : List PV} {x : PV}, dats xs = true → x ∈ xs → dat x = true
  | y :: xs, x, h, hx => by
    unfold dats at h
    rw [Bool.and_eq_true] at h
    rcases List.mem_cons.mp hx with rfl | hx
    · exact h.1
    · exact dats_mem h.2 hx
theorem deps_mem : ∀ {xs : List PV} {x : PV}, x ∈ xs → dep x ≤ deps xs
  | y :: xs, x, hx => by
    unfold deps
    rcases List.mem_cons.mp hx with rfl | hx
    · exact Nat.le_max_left _ _
    · exact Nat.le_trans (deps_mem hx) (Nat.le_max_right _ _)
theorem peq_nil (h : MH) : peq h (.lst []) (.lst []) = some true := by
  unfold peq
  simp [scalP, peqD, toD, toDs, SeqAt.shaped, PyData.eqv, PyData.eqvAll, PyData.canLay0, PyData.canLayAll0, PyData.depth, PyData.depthAll]
theorem c_same {k : Nat} {h : MH} {x : PV} {xs : List PV} (hx : x = .tup xs ∨ x = .lst xs) (hl : xs.length ≤ 1000) (ih : ∀ y ∈ xs, call PG (k + 1) "_law_same" [y, y] [] [] h = .ok (.bl true) h) :
    ev PG (call PG (k + 1)) c_law_same_1 [some x, some x, none] h = .ok (.lst []) h := by
  refine comp_none (s := ([], (List.range xs.length).map fun (k : Nat) => PV.int (k : Int))) ?_ chk_nil fun y hy => ?_
  · have e0 : ev PG (call PG (k + 1)) (.blt .len false (.cons (.v 1) .nil)) [some x, some x, none] h = .ok (.int (xs.length : Int)) h := by rcases hx with rfl | rfl <;> simp [body, q_ev_v, q_ev_non, q_ev_bl, q_ev_int, q_ev_str, q_ev_con, q_ev_tup, q_ev_lst, q_ev_bin, q_ev_neg, q_ev_not, q_ev_cmp, q_ev_chain, q_ev_and, q_ev_or, q_ev_ifx, q_ev_ix, q_ev_sl, q_ev_call, q_ev_blt, q_ev_isi, q_ev_met, q_ev_val, q_evs_nil, q_evs_cons, q_evAnd_cons, q_evAnd_cons2, q_evOr_cons, q_evOr_cons2, q_evIfs_none, q_evIfs_some, q_evo_none, q_evo_some, q_evi_ex, q_run1_ex, q_run1_set, q_run1_put, q_run1_ite, q_run1_whl, q_run1_for, q_run1_ret, q_run1_retN, q_run1_rais, q_run1_try, q_run1_brk, q_run1_cnt, q_run1_pas, q_runs_nil, q_runs_cons, q_runH_nil, q_runH_cons, tst, bltop, bindG, bindGs, cmpop, ofB, truthy, int1, int2, ltop, leop, binop, addop, subop, mulop, divop, modop, powop, ixop, items, litems, mkLst, lenop, intop, isiop, tyOf, putop, src, wipeP]
    exact rng1 e0 (by omega)
  · obtain ⟨i, hi, rfl⟩ := List.mem_map.mp hy
    have hi' : i < xs.length := List.mem_range.mp hi
    have e1 := atI_nat hi'
    have e2 := ih xs[i] (List.getElem_mem hi')
    refine ⟨[some x, some x, some (.int i)], by simp [bindG, wipeP], ?_⟩
    rcases hx with rfl | rfl <;> simp [body, q_ev_v, q_ev_non, q_ev_bl, q_ev_int, q_ev_str, q_ev_con, q_ev_tup, q_ev_lst, q_ev_bin, q_ev_neg, q_ev_not, q_ev_cmp, q_ev_chain, q_ev_and, q_ev_or, q_ev_ifx, q_ev_ix, q_ev_sl, q_ev_call, q_ev_blt, q_ev_isi, q_ev_met, q_ev_val, q_evs_nil, q_evs_cons, q_evAnd_cons, q_evAnd_cons2, q_evOr_cons, q_evOr_cons2, q_evIfs_none, q_evIfs_some, q_evo_none, q_evo_some, q_evi_ex, q_run1_ex, q_run1_set, q_run1_put, q_run1_ite, q_run1_whl, q_run1_for, q_run1_ret, q_run1_retN, q_run1_rais, q_run1_try, q_run1_brk, q_run1_cnt, q_run1_pas, q_runs_nil, q_runs_cons, q_runH_nil, q_runH_cons, tst, bltop, bindG, bindGs, cmpop, ofB, truthy, int1, int2, ltop, leop, binop, addop, subop, mulop, divop, modop, powop, ixop, items, litems, mkLst, lenop, intop, isiop, tyOf, putop, src, wipeP, e1, e2]
theorem same_non (k : Nat) (h : MH) : call PG (k+1) "_law_same" [.non, .non] [] [] h = .ok (.bl true) h := by
  rw [call_at pg_law_same (args_pos rfl)]
  simp [body, q_ev_v, q_ev_non, q_ev_bl, q_ev_int, q_ev_str, q_ev_con, q_ev_tup, q_ev_lst, q_ev_bin, q_ev_neg, q_ev_not, q_ev_cmp, q_ev_chain, q_ev_and, q_ev_or, q_ev_ifx, q_ev_ix, q_ev_sl, q_ev_call, q_ev_blt, q_ev_isi, q_ev_met, q_ev_val, q_evs_nil, q_evs_cons, q_evAnd_cons, q_evAnd_cons2, q_evOr_cons, q_evOr_cons2, q_evIfs_none, q_evIfs_some, q_evo_none, q_evo_some, q_evi_ex, q_run1_ex, q_run1_set, q_run1_put, q_run1_ite, q_run1_whl, q_run1_for, q_run1_ret, q_run1_retN, q_run1_rais, q_run1_try, q_run1_brk, q_run1_cnt, q_run1_pas, q_runs_nil, q_runs_cons, q_runH_nil, q_runH_cons, tst, bltop, bindG, bindGs, cmpop, ofB, truthy, int1, int2, ltop, leop, binop, addop, subop, mulop, divop, modop, powop, ixop, items, litems, mkLst, lenop, intop, isiop, tyOf, putop, src, wipeP, f_law_same, subB, isNon]
  exact res_rt (leave_bl _ _)
theorem same_bl (k : Nat) (h : MH) (b : Bool) : call PG (k+1) "_law_same" [.bl b, .bl b] [] [] h = .ok (.bl true) h := by
  rw [call_at pg_law_same (args_pos rfl)]
  simp [body, q_ev_v, q_ev_non, q_ev_bl, q_ev_int, q_ev_str, q_ev_con, q_ev_tup, q_ev_lst, q_ev_bin, q_ev_neg, q_ev_not, q_ev_cmp, q_ev_chain, q_ev_and, q_ev_or, q_ev_ifx, q_ev_ix, q_ev_sl, q_ev_call, q_ev_blt, q_ev_isi, q_ev_met, q_ev_val, q_evs_nil, q_evs_cons, q_evAnd_cons, q_evAnd_cons2, q_evOr_cons, q_evOr_cons2, q_evIfs_none, q_evIfs_some, q_evo_none, q_evo_some, q_evi_ex, q_run1_ex, q_run1_set, q_run1_put, q_run1_ite, q_run1_whl, q_run1_for, q_run1_ret, q_run1_retN, q_run1_rais, q_run1_try, q_run1_brk, q_run1_cnt, q_run1_pas, q_runs_nil, q_runs_cons, q_runH_nil, q_runH_cons, tst, bltop, bindG, bindGs, cmpop, ofB, truthy, int1, int2, ltop, leop, binop, addop, subop, mulop, divop, modop, powop, ixop, items, litems, mkLst, lenop, intop, isiop, tyOf, putop, src, wipeP, f_law_same, subB, peq, scalP, eqF, isNon]
  exact res_rt (leave_bl _ _)
theorem same_int (k : Nat) (h : MH) (b : Int) : call PG (k+1) "_law_same" [.int b, .int b] [] [] h = .ok (.bl true) h := by
  rw [call_at pg_law_same (args_pos rfl)]
  simp [body, q_ev_v, q_ev_non, q_ev_bl, q_ev_int, q_ev_str, q_ev_con, q_ev_tup, q_ev_lst, q_ev_bin, q_ev_neg, q_ev_not, q_ev_cmp, q_ev_chain, q_ev_and, q_ev_or, q_ev_ifx, q_ev_ix, q_ev_sl, q_ev_call, q_ev_blt, q_ev_isi, q_ev_met, q_ev_val, q_evs_nil, q_evs_cons, q_evAnd_cons, q_evAnd_cons2, q_evOr_cons, q_evOr_cons2, q_evIfs_none, q_evIfs_some, q_evo_none, q_evo_some, q_evi_ex, q_run1_ex, q_run1_set, q_run1_put, q_run1_ite, q_run1_whl, q_run1_for, q_run1_ret, q_run1_retN, q_run1_rais, q_run1_try, q_run1_brk, q_run1_cnt, q_run1_pas, q_runs_nil, q_runs_cons, q_runH_nil, q_runH_cons, tst, bltop, bindG, bindGs, cmpop, ofB, truthy, int1, int2, ltop, leop, binop, addop, subop, mulop, divop, modop, powop, ixop, items, litems, mkLst, lenop, intop, isiop, tyOf, putop, src, wipeP, f_law_same, subB, peq, scalP, eqF, isNon]
  exact res_rt (leave_bl _ _)
theorem same_str (k : Nat) (h : MH) (b : Str) : call PG (k+1) "_law_same" [.str b, .str b] [] [] h = .ok (.bl true) h := by
  rw [call_at pg_law_same (args_pos rfl)]
  simp [body, q_ev_v, q_ev_non, q_ev_bl, q_ev_int, q_ev_str, q_ev_con, q_ev_tup, q_ev_lst, q_ev_bin, q_ev_neg, q_ev_not, q_ev_cmp, q_ev_chain, q_ev_and, q_ev_or, q_ev_ifx, q_ev_ix, q_ev_sl, q_ev_call, q_ev_blt, q_ev_isi, q_ev_met, q_ev_val, q_evs_nil, q_evs_cons, q_evAnd_cons, q_evAnd_cons2, q_evOr_cons, q_evOr_cons2, q_evIfs_none, q_evIfs_some, q_evo_none, q_evo_some, q_evi_ex, q_run1_ex, q_run1_set, q_run1_put, q_run1_ite, q_run1_whl, q_run1_for, q_run1_ret, q_run1_retN, q_run1_rais, q_run1_try, q_run1_brk, q_run1_cnt, q_run1_pas, q_runs_nil, q_runs_cons, q_runH_nil, q_runH_cons, tst, bltop, bindG, bindGs, cmpop, ofB, truthy, int1, int2, ltop, leop, binop, addop, subop, mulop, divop, modop, powop, ixop, items, litems, mkLst, lenop, intop, isiop, tyOf, putop, src, wipeP, f_law_same, subB, peq, scalP, eqF, isNon]
  exact res_rt (leave_bl _ _)
theorem same_tup (k : Nat) (h : MH) (xs : List PV) (ec : ev PG (call PG k) c_law_same_1 [some (.tup xs), some (.tup xs), none] h = .ok (.lst []) h) (en : peq h (.lst []) (.lst []) = some true) : call PG (k+1) "_law_same" [.tup xs, .tup xs] [] [] h = .ok (.bl true) h := by
  rw [call_at pg_law_same (args_pos rfl)]
  have eb : ∀ b : Bool, peq h (.bl b) (.bl b) = some true := fun b => by simp [peq, scalP, eqF]
  have ei : ∀ b : Int, peq h (.int b) (.int b) = some true := fun b => by simp [peq, scalP, eqF]
  simp [ec, body, q_ev_v, q_ev_non, q_ev_bl, q_ev_int, q_ev_str, q_ev_con, q_ev_tup, q_ev_lst, q_ev_bin, q_ev_neg, q_ev_not, q_ev_cmp, q_ev_chain, q_ev_and, q_ev_or, q_ev_ifx, q_ev_ix, q_ev_sl, q_ev_call, q_ev_blt, q_ev_isi, q_ev_met, q_ev_val, q_evs_nil, q_evs_cons, q_evAnd_cons, q_evAnd_cons2, q_evOr_cons, q_evOr_cons2, q_evIfs_none, q_evIfs_some, q_evo_none, q_evo_some, q_evi_ex, q_run1_ex, q_run1_set, q_run1_put, q_run1_ite, q_run1_whl, q_run1_for, q_run1_ret, q_run1_retN, q_run1_rais, q_run1_try, q_run1_brk, q_run1_cnt, q_run1_pas, q_runs_nil, q_runs_cons, q_runH_nil, q_runH_cons, tst, bltop, bindG, bindGs, cmpop, ofB, truthy, int1, int2, ltop, leop, binop, addop, subop, mulop, divop, modop, powop, ixop, items, litems, mkLst, lenop, intop, isiop, tyOf, putop, src, wipeP, f_law_same, subB, eb, ei, en]
  exact res_rt (leave_bl _ _)
theorem same_lst (k : Nat) (h : MH) (xs : List PV) (ec : ev PG (call PG k) c_law_same_1 [some (.lst xs), some (.lst xs), none] h = .ok (.lst []) h) (en : peq h (.lst []) (.lst []) = some true) : call PG (k+1) "_law_same" [.lst xs, .lst xs] [] [] h = .ok (.bl true) h := by
  rw [call_at pg_law_same (args_pos rfl)]
  have eb : ∀ b : Bool, peq h (.bl b) (.bl b) = some true := fun b => by simp [peq, scalP, eqF]
  have ei : ∀ b : Int, peq h (.int b) (.int b) = some true := fun b => by simp [peq, scalP, eqF]
  simp [ec, body, q_ev_v, q_ev_non, q_ev_bl, q_ev_int, q_ev_str, q_ev_con, q_ev_tup, q_ev_lst, q_ev_bin, q_ev_neg, q_ev_not, q_ev_cmp, q_ev_chain, q_ev_and, q_ev_or, q_ev_ifx, q_ev_ix, q_ev_sl, q_ev_call, q_ev_blt, q_ev_isi, q_ev_met, q_ev_val, q_evs_nil, q_evs_cons, q_evAnd_cons, q_evAnd_cons2, q_evOr_cons, q_evOr_cons2, q_evIfs_none, q_evIfs_some, q_evo_none, q_evo_some, q_evi_ex, q_run1_ex, q_run1_set, q_run1_put, q_run1_ite, q_run1_whl, q_run1_for, q_run1_ret, q_run1_retN, q_run1_rais, q_run1_try, q_run1_brk, q_run1_cnt, q_run1_pas, q_runs_nil, q_runs_cons, q_runH_nil, q_runH_cons, tst, bltop, bindG, bindGs, cmpop, ofB, truthy, int1, int2, ltop, leop, binop, addop, subop, mulop, divop, modop, powop, ixop, items, litems, mkLst, lenop, intop, isiop, tyOf, putop, src, wipeP, f_law_same, subB, eb, ei, en]
  exact res_rt (leave_bl _ _)
theorem s_same : ∀ (k : Nat) (x : PV) (h : MH), dat x = true → dep x ≤ k → call PG (k+1) "_law_same" [x, x] [] [] h = .ok (.bl true) h := by
  intro k
  induction k with
  | zero =>
    intro x h hd hk
    cases x with
    | non => exact same_non 0 h
    | bl b => exact same_bl 0 h b
    | int b => exact same_int 0 h b
    | str b => exact same_str 0 h b
    | tup xs => simp [dep] at hk
    | lst xs => simp [dep] at hk
    | dic _ _ => cases hd
    | ref _ => cases hd
    | exn _ _ => cases hd
  | succ k ih =>
    intro x h hd hk
    cases x with
    | non => exact same_non _ h
    | bl b => exact same_bl _ h b
    | int b => exact same_int _ h b
    | str b => exact same_str _ h b
    | tup xs =>
      simp only [dat, Bool.and_eq_true, decide_eq_true_eq] at hd
      simp only [dep] at hk
      exact same_tup _ h xs (c_same (.inl rfl) hd.2 fun y hy => ih y h (dats_mem hd.1 hy) (by have := deps_mem hy; omega)) (peq_nil h)
    | lst xs =>
      simp only [dat, Bool.and_eq_true, decide_eq_true_eq] at hd
      simp only [dep] at hk
      exact same_lst _ h xs (c_same (.inr rfl) hd.2 fun y hy => ih y h (dats_mem hd.1 hy) (by have := deps_mem hy; omega)) (peq_nil h)
    | dic _ _ => cases hd
    | ref _ => cases hd
    | exn _ _ => cases hd
end Mx.K01


set_option linter.all false
set_option maxRecDepth 100000
set_option maxHeartbeats 4000000
set_option exponentiation.threshold 20000
namespace Mx.K01
open PySem PySem.Spec PyProof.Rows L2 Mx
theorem small_nat {i : Int} (n : Nat) (h : i.natAbs < n) (m : Nat) (hm : n ≤ 2 ^ m := by decide) : Sm m i := Nat.lt_of_lt_of_le h hm
theorem pow_sm {b : Int} (h0 : 0 ≤ b) (h1 : b ≤ 1000000000) : Sm 1020 (b ^ 34) ∧ Sm 1020 (b ^ 3) := by
  obtain ⟨c, rfl⟩ := Int.eq_ofNat_of_zero_le h0
  have hc : c ≤ 1000000000 := by omega
  constructor
  · show ((c : Int) ^ 34).natAbs < 2 ^ 1020
    rw [Int.natAbs_pow, Int.natAbs_natCast]
    exact Nat.lt_of_le_of_lt (Nat.pow_le_pow_left hc 34) (by decide)
  · show ((c : Int) ^ 3).natAbs < 2 ^ 1020
    rw [Int.natAbs_pow, Int.natAbs_natCast]
    exact Nat.lt_of_le_of_lt (Nat.pow_le_pow_left hc 3) (by decide)
theorem s_integer (k n : Nat) (h : MH) (hD : Dk h n) : ∃ v h', call PG (k+2) "_law_integer" [.ref n] [] [] h = .ok (.int v) h' ∧ Sm 1030 v ∧ h'.length = h.length ∧ Dk h' n := by
  obtain ⟨t1, h1, e1, a1, b1, l1, D1⟩ := s_take k n h 1000000 hD (by decide) (by decide)
  obtain ⟨t2, h2, e2, a2, b2, l2, D2⟩ := s_take k n h1 1000000000 D1 (by decide) (by decide)
  obtain ⟨t3, h3, e3, a3, b3, l3, D3⟩ := s_take k n h2 7 D2 (by decide) (by decide)
  obtain ⟨t4, h4, e4, a4, b4, l4, D4⟩ := s_take k n h3 2 D3 (by decide) (by decide)
  have f1 : fitd 100000 := fitd_of (K01.up (k := 64) (by decide))
  have p1 : (1 + t2).natAbs < 2 ^ 64 := by omega
  have p2 : (1 + t2).natAbs < 18446744073709551616 := p1
  obtain ⟨q1, q2⟩ := pow_sm (b := 1 + t2) (by omega) (by omega)
  have key : ∀ v : Int, Sm 1030 v → atI [PV.int 0, .int t1, .int (t1.fdiv 100000), .int ((1 + t2) ^ 3), .int ((1 + t2) ^ 34 + t1), .int 1, .int 2] t3 = some (.int v) →
      ∃ v h', call PG (k+2) "_law_integer" [.ref n] [] [] h = .ok (.int v) h' ∧ Sm 1030 v ∧ h'.length = h.length ∧ Dk h' n := by
    intro v hv hat
    have t4' : t4 = 0 ∨ t4 = 1 := by omega
    rcases t4' with rfl | rfl
    · refine ⟨v, h4, ?_, hv, by omega, D4⟩
      rw [call_at pg_law_integer (args_pos rfl)]
      simp [body, q_ev_v, q_ev_non, q_ev_bl, q_ev_int, q_ev_str, q_ev_con, q_ev_tup, q_ev_lst, q_ev_bin, q_ev_neg, q_ev_not, q_ev_cmp, q_ev_chain, q_ev_and, q_ev_or, q_ev_ifx, q_ev_ix, q_ev_sl, q_ev_call, q_ev_blt, q_ev_isi, q_ev_met, q_ev_val, q_evs_nil, q_evs_cons, q_evAnd_cons, q_evAnd_cons2, q_evOr_cons, q_evOr_cons2, q_evIfs_none, q_evIfs_some, q_evo_none, q_evo_some, q_evi_ex, q_run1_ex, q_run1_set, q_run1_put, q_run1_ite, q_run1_whl, q_run1_for, q_run1_ret, q_run1_retN, q_run1_rais, q_run1_try, q_run1_brk, q_run1_cnt, q_run1_pas, q_runs_nil, q_runs_cons, q_runH_nil, q_runH_cons, tst, bltop, bindG, bindGs, cmpop, ofB, truthy, int1, int2, ltop, leop, binop, addop, subop, mulop, divop, modop, powop, ixop, items, litems, mkLst, lenop, intop, isiop, tyOf, putop, src, wipeP, f_law_integer, e1, e2, e3, e4, f1, p2, hat]
      exact res_rt (leave_len (by omega) fun k e => by cases e)
    · refine ⟨-v, h4, ?_, hv.neg, by omega, D4⟩
      rw [call_at pg_law_integer (args_pos rfl)]
      simp [body, q_ev_v, q_ev_non, q_ev_bl, q_ev_int, q_ev_str, q_ev_con, q_ev_tup, q_ev_lst, q_ev_bin, q_ev_neg, q_ev_not, q_ev_cmp, q_ev_chain, q_ev_and, q_ev_or, q_ev_ifx, q_ev_ix, q_ev_sl, q_ev_call, q_ev_blt, q_ev_isi, q_ev_met, q_ev_val, q_evs_nil, q_evs_cons, q_evAnd_cons, q_evAnd_cons2, q_evOr_cons, q_evOr_cons2, q_evIfs_none, q_evIfs_some, q_evo_none, q_evo_some, q_evi_ex, q_run1_ex, q_run1_set, q_run1_put, q_run1_ite, q_run1_whl, q_run1_for, q_run1_ret, q_run1_retN, q_run1_rais, q_run1_try, q_run1_brk, q_run1_cnt, q_run1_pas, q_runs_nil, q_runs_cons, q_runH_nil, q_runH_cons, tst, bltop, bindG, bindGs, cmpop, ofB, truthy, int1, int2, ltop, leop, binop, addop, subop, mulop, divop, modop, powop, ixop, items, litems, mkLst, lenop, intop, isiop, tyOf, putop, src, wipeP, f_law_integer, e1, e2, e3, e4, f1, p2, hat]
      exact res_rt (leave_len (by omega) fun k e => by cases e)
  have st2 : Sm 1020 t1 := small_nat 1000000 (by omega) 1020
  have st1 : Sm 1030 t1 := small_nat 1000000 (by omega) 1030
  have t3' : t3 = 0 ∨ t3 = 1 ∨ t3 = 2 ∨ t3 = 3 ∨ t3 = 4 ∨ t3 = 5 ∨ t3 = 6 := by omega
  have d1 : Sm 1030 (t1.fdiv 100000) := by
    have x1 := Int.fdiv_nonneg a1 (show (0 : Int) ≤ 100000 by decide)
    have x2 : t1.fdiv 100000 ≤ t1 := by
      rw [Int.fdiv_eq_ediv_of_nonneg _ (by decide)]
      exact Int.ediv_le_self _ a1
    exact small_nat 1000000 (by omega) 1030
  rcases t3' with rfl | rfl | rfl | rfl | rfl | rfl | rfl
  · exact key 0 (small_nat 1 (by decide) 1030) (by simp [atI, ixN])
  · exact key t1 st1 (by simp [atI, ixN])
  · exact key _ d1 (by simp [atI, ixN])
  · exact key _ q2.up (by simp [atI, ixN])
  · exact key _ (Sm.up (n := 1021) (Sm.add q1 st2)) (by simp [atI, ixN])
  · exact key 1 (small_nat 2 (by decide) 1030) (by simp [atI, ixN])
  · exact key 2 (small_nat 3 (by decide) 1030) (by simp [atI, ixN])

theorem s_law_plus (k : Nat) (h : MH) (p q : Int × Int) (hp : 0 < p.2) (hq : 0 < q.2) (h1 : SmP p) (h2 : SmP q) : call PG (k+3) "_law_plus" [pr p, pr q] [] [] h = .ok (pr (add p q)) h := by
  rw [call_at pg_law_plus (args_pos rfl)]
  obtain ⟨a, b⟩ := p
  obtain ⟨c, d⟩ := q
  dsimp only at hp hq
  have m1 : fits a d := (h1.1.up).fits (h2.2.up)
  have m2 : fits c b := (h2.1.up).fits (h1.2.up)
  have m3 : fits b d := (h1.2.up).fits (h2.2.up)
  have e := s_pair k h (a * d + c * b) (b * d) (Int.ne_of_gt (Int.mul_pos hp hq)) (Sm.up (Sm.mul h1.2 h2.2))
  simp [body, q_ev_v, q_ev_non, q_ev_bl, q_ev_int, q_ev_str, q_ev_con, q_ev_tup, q_ev_lst, q_ev_bin, q_ev_neg, q_ev_not, q_ev_cmp, q_ev_chain, q_ev_and, q_ev_or, q_ev_ifx, q_ev_ix, q_ev_sl, q_ev_call, q_ev_blt, q_ev_isi, q_ev_met, q_ev_val, q_evs_nil, q_evs_cons, q_evAnd_cons, q_evAnd_cons2, q_evOr_cons, q_evOr_cons2, q_evIfs_none, q_evIfs_some, q_evo_none, q_evo_some, q_evi_ex, q_run1_ex, q_run1_set, q_run1_put, q_run1_ite, q_run1_whl, q_run1_for, q_run1_ret, q_run1_retN, q_run1_rais, q_run1_try, q_run1_brk, q_run1_cnt, q_run1_pas, q_runs_nil, q_runs_cons, q_runH_nil, q_runH_cons, tst, bltop, bindG, bindGs, cmpop, ofB, truthy, int1, int2, ltop, leop, binop, addop, subop, mulop, divop, modop, powop, ixop, items, litems, mkLst, lenop, intop, isiop, tyOf, putop, src, wipeP, f_law_plus, pr, m1, m2, m3, e]
  rw [res_rt (leave_tup _ _)]
  simp [add]
theorem s_law_times (k : Nat) (h : MH) (p q : Int × Int) (hp : 0 < p.2) (hq : 0 < q.2) (h1 : SmP p) (h2 : SmP q) : call PG (k+3) "_law_times" [pr p, pr q] [] [] h = .ok (pr (mul p q)) h := by
  rw [call_at pg_law_times (args_pos rfl)]
  obtain ⟨a, b⟩ := p
  obtain ⟨c, d⟩ := q
  dsimp only at hp hq
  have m1 : fits a c := (h1.1.up).fits (h2.1.up)
  have m3 : fits b d := (h1.2.up).fits (h2.2.up)
  have e := s_pair k h (a * c) (b * d) (Int.ne_of_gt (Int.mul_pos hp hq)) (Sm.up (Sm.mul h1.2 h2.2))
  simp [body, q_ev_v, q_ev_non, q_ev_bl, q_ev_int, q_ev_str, q_ev_con, q_ev_tup, q_ev_lst, q_ev_bin, q_ev_neg, q_ev_not, q_ev_cmp, q_ev_chain, q_ev_and, q_ev_or, q_ev_ifx, q_ev_ix, q_ev_sl, q_ev_call, q_ev_blt, q_ev_isi, q_ev_met, q_ev_val, q_evs_nil, q_evs_cons, q_evAnd_cons, q_evAnd_cons2, q_evOr_cons, q_evOr_cons2, q_evIfs_none, q_evIfs_some, q_evo_none, q_evo_some, q_evi_ex, q_run1_ex, q_run1_set, q_run1_put, q_run1_ite, q_run1_whl, q_run1_for, q_run1_ret, q_run1_retN, q_run1_rais, q_run1_try, q_run1_brk, q_run1_cnt, q_run1_pas, q_runs_nil, q_runs_cons, q_runH_nil, q_runH_cons, tst, bltop, bindG, bindGs, cmpop, ofB, truthy, int1, int2, ltop, leop, binop, addop, subop, mulop, divop, modop, powop, ixop, items, litems, mkLst, lenop, intop, isiop, tyOf, putop, src, wipeP, f_law_times, pr, m1, m3, e]
  rw [res_rt (leave_tup _ _)]
  simp [mul]
theorem s_law_less (k : Nat) (h : MH) (p q : Int × Int) (h1 : SmP p) (h2 : SmP q) : call PG (k+1) "_law_less" [pr p, pr q] [] [] h = .ok (.bl (decide (p.1 * q.2 < q.1 * p.2))) h := by
  rw [call_at pg_law_less (args_pos rfl)]
  have m1 : fits p.1 q.2 := (h1.1.up).fits (h2.2.up)
  have m2 : fits q.1 p.2 := (h2.1.up).fits (h1.2.up)
  simp [body, q_ev_v, q_ev_non, q_ev_bl, q_ev_int, q_ev_str, q_ev_con, q_ev_tup, q_ev_lst, q_ev_bin, q_ev_neg, q_ev_not, q_ev_cmp, q_ev_chain, q_ev_and, q_ev_or, q_ev_ifx, q_ev_ix, q_ev_sl, q_ev_call, q_ev_blt, q_ev_isi, q_ev_met, q_ev_val, q_evs_nil, q_evs_cons, q_evAnd_cons, q_evAnd_cons2, q_evOr_cons, q_evOr_cons2, q_evIfs_none, q_evIfs_some, q_evo_none, q_evo_some, q_evi_ex, q_run1_ex, q_run1_set, q_run1_put, q_run1_ite, q_run1_whl, q_run1_for, q_run1_ret, q_run1_retN, q_run1_rais, q_run1_try, q_run1_brk, q_run1_cnt, q_run1_pas, q_runs_nil, q_runs_cons, q_runH_nil, q_runH_cons, tst, bltop, bindG, bindGs, cmpop, ofB, truthy, int1, int2, ltop, leop, binop, addop, subop, mulop, divop, modop, powop, ixop, items, litems, mkLst, lenop, intop, isiop, tyOf, putop, src, wipeP, f_law_less, pr, m1, m2]
  rw [res_rt (leave_bl _ _)]
  have : (p.1 * q.2 - q.1 * p.2 < 0) ↔ (p.1 * q.2 < q.1 * p.2) := by omega
  simp [this]
theorem s_law_is (k : Nat) (h : MH) (p : Int × Int) : call PG (k+2) "_law_is" [pr p] [] [] h = .ok (.bl (decide (IsLow p))) h := by
  rw [call_at pg_law_is (args_pos rfl)]
  obtain ⟨a, b⟩ := p
  unfold IsLow pr
  by_cases hb : 0 < b
  · have ea : (if a < 0 then -a else a) = (a.natAbs : Int) := by split <;> omega
    have eb : (b.natAbs : Int) = b := by omega
    have e := s_gcd k h (a.natAbs : Int) (b.natAbs : Int) (by omega) (by omega)
    rw [Int.natAbs_natCast, Int.natAbs_natCast, eb] at e
    simp [body, q_ev_v, q_ev_non, q_ev_bl, q_ev_int, q_ev_str, q_ev_con, q_ev_tup, q_ev_lst, q_ev_bin, q_ev_neg, q_ev_not, q_ev_cmp, q_ev_chain, q_ev_and, q_ev_or, q_ev_ifx, q_ev_ix, q_ev_sl, q_ev_call, q_ev_blt, q_ev_isi, q_ev_met, q_ev_val, q_evs_nil, q_evs_cons, q_evAnd_cons, q_evAnd_cons2, q_evOr_cons, q_evOr_cons2, q_evIfs_none, q_evIfs_some, q_evo_none, q_evo_some, q_evi_ex, q_run1_ex, q_run1_set, q_run1_put, q_run1_ite, q_run1_whl, q_run1_for, q_run1_ret, q_run1_retN, q_run1_rais, q_run1_try, q_run1_brk, q_run1_cnt, q_run1_pas, q_runs_nil, q_runs_cons, q_runH_nil, q_runH_cons, tst, bltop, bindG, bindGs, cmpop, ofB, truthy, int1, int2, ltop, leop, binop, addop, subop, mulop, divop, modop, powop, ixop, items, litems, mkLst, lenop, intop, isiop, tyOf, putop, src, wipeP, f_law_is, hb, ea, e, peq, scalP, eqF]
    rw [res_rt (leave_bl _ _)]
    congr 2
    by_cases hg : a.natAbs.gcd b.natAbs = 1
    · simp [hg]
    · have : ((a.natAbs.gcd b.natAbs : Nat) : Int) ≠ 1 := by omega
      simp [hg, this]
  · simp [body, q_ev_v, q_ev_non, q_ev_bl, q_ev_int, q_ev_str, q_ev_con, q_ev_tup, q_ev_lst, q_ev_bin, q_ev_neg, q_ev_not, q_ev_cmp, q_ev_chain, q_ev_and, q_ev_or, q_ev_ifx, q_ev_ix, q_ev_sl, q_ev_call, q_ev_blt, q_ev_isi, q_ev_met, q_ev_val, q_evs_nil, q_evs_cons, q_evAnd_cons, q_evAnd_cons2, q_evOr_cons, q_evOr_cons2, q_evIfs_none, q_evIfs_some, q_evo_none, q_evo_some, q_evi_ex, q_run1_ex, q_run1_set, q_run1_put, q_run1_ite, q_run1_whl, q_run1_for, q_run1_ret, q_run1_retN, q_run1_rais, q_run1_try, q_run1_brk, q_run1_cnt, q_run1_pas, q_runs_nil, q_runs_cons, q_runH_nil, q_runH_cons, tst, bltop, bindG, bindGs, cmpop, ofB, truthy, int1, int2, ltop, leop, binop, addop, subop, mulop, divop, modop, powop, ixop, items, litems, mkLst, lenop, intop, isiop, tyOf, putop, src, wipeP, f_law_is, hb]
    exact res_rt (leave_bl _ _)
/-- what a pair that is drawn is -/
theorem s_couple (k n : Nat) (h : MH) (hD : Dk h n) : ∃ p h', call PG (k+3) "_law_couple" [.ref n] [] [] h = .ok (pr p) h' ∧ SmP p ∧ h'.length = h.length ∧ Dk h' n := by
  obtain ⟨v1, h1, e1, s1, l1, D1⟩ := s_integer k n h hD
  obtain ⟨v2, h2, e2, s2, l2, D2⟩ := s_integer k n h1 D1
  obtain ⟨t3, h3, e3, a3, b3, l3, D3⟩ := s_take (k+1) n h2 4 D2 (by decide) (by decide)
  have m1 : Sm 4400 v1 := s1.up
  have m2 : Sm 4400 v2 := s2.up
  by_cases c0 : t3 = 0
  · subst c0
    refine ⟨(v1, v2), h3, ?_, ⟨m1, m2⟩, by omega, D3⟩
    rw [call_at pg_law_couple (args_pos rfl)]
    simp [body, q_ev_v, q_ev_non, q_ev_bl, q_ev_int, q_ev_str, q_ev_con, q_ev_tup, q_ev_lst, q_ev_bin, q_ev_neg, q_ev_not, q_ev_cmp, q_ev_chain, q_ev_and, q_ev_or, q_ev_ifx, q_ev_ix, q_ev_sl, q_ev_call, q_ev_blt, q_ev_isi, q_ev_met, q_ev_val, q_evs_nil, q_evs_cons, q_evAnd_cons, q_evAnd_cons2, q_evOr_cons, q_evOr_cons2, q_evIfs_none, q_evIfs_some, q_evo_none, q_evo_some, q_evi_ex, q_run1_ex, q_run1_set, q_run1_put, q_run1_ite, q_run1_whl, q_run1_for, q_run1_ret, q_run1_retN, q_run1_rais, q_run1_try, q_run1_brk, q_run1_cnt, q_run1_pas, q_runs_nil, q_runs_cons, q_runH_nil, q_runH_cons, tst, bltop, bindG, bindGs, cmpop, ofB, truthy, int1, int2, ltop, leop, binop, addop, subop, mulop, divop, modop, powop, ixop, items, litems, mkLst, lenop, intop, isiop, tyOf, putop, src, wipeP, f_law_couple, e1, e2, e3, peq, scalP, eqF]
    exact res_rt (leave_len (by omega) fun k e => by cases e)
  · have c0' := beq_f c0
    by_cases c1 : v2 = 0
    · subst c1
      refine ⟨(v1, 0), h3, ?_, ⟨m1, m2⟩, by omega, D3⟩
      rw [call_at pg_law_couple (args_pos rfl)]
      simp [body, q_ev_v, q_ev_non, q_ev_bl, q_ev_int, q_ev_str, q_ev_con, q_ev_tup, q_ev_lst, q_ev_bin, q_ev_neg, q_ev_not, q_ev_cmp, q_ev_chain, q_ev_and, q_ev_or, q_ev_ifx, q_ev_ix, q_ev_sl, q_ev_call, q_ev_blt, q_ev_isi, q_ev_met, q_ev_val, q_evs_nil, q_evs_cons, q_evAnd_cons, q_evAnd_cons2, q_evOr_cons, q_evOr_cons2, q_evIfs_none, q_evIfs_some, q_evo_none, q_evo_some, q_evi_ex, q_run1_ex, q_run1_set, q_run1_put, q_run1_ite, q_run1_whl, q_run1_for, q_run1_ret, q_run1_retN, q_run1_rais, q_run1_try, q_run1_brk, q_run1_cnt, q_run1_pas, q_runs_nil, q_runs_cons, q_runH_nil, q_runH_cons, tst, bltop, bindG, bindGs, cmpop, ofB, truthy, int1, int2, ltop, leop, binop, addop, subop, mulop, divop, modop, powop, ixop, items, litems, mkLst, lenop, intop, isiop, tyOf, putop, src, wipeP, f_law_couple, e1, e2, e3, peq, scalP, eqF, c0']
      exact res_rt (leave_len (by omega) fun k e => by cases e)
    · have c1' := beq_f c1
      by_cases c2 : t3 = 1
      · subst c2
        obtain ⟨t4, h4, e4, a4, b4, l4, D4⟩ := s_take (k+1) n h3 30 D3 (by decide) (by decide)
        have st : Sm 10 (2 + t4) := small_nat 100 (by omega) 10
        have sa : Sm 1030 (if v2 < 0 then -v2 else v2) := by split; exact s2.neg; exact s2
        have f1 : fits v1 (2 + t4) := Sm.fits s1.up st.up
        have f2 : fits (if v2 < 0 then -v2 else v2) (2 + t4) := Sm.fits sa.up st.up
        refine ⟨(v1 * (2 + t4), (if v2 < 0 then -v2 else v2) * (2 + t4)), h4, ?_, ⟨Sm.up (Sm.mul s1 st), Sm.up (Sm.mul sa st)⟩, by omega, D4⟩
        rw [call_at pg_law_couple (args_pos rfl)]
        simp [body, q_ev_v, q_ev_non, q_ev_bl, q_ev_int, q_ev_str, q_ev_con, q_ev_tup, q_ev_lst, q_ev_bin, q_ev_neg, q_ev_not, q_ev_cmp, q_ev_chain, q_ev_and, q_ev_or, q_ev_ifx, q_ev_ix, q_ev_sl, q_ev_call, q_ev_blt, q_ev_isi, q_ev_met, q_ev_val, q_evs_nil, q_evs_cons, q_evAnd_cons, q_evAnd_cons2, q_evOr_cons, q_evOr_cons2, q_evIfs_none, q_evIfs_some, q_evo_none, q_evo_some, q_evi_ex, q_run1_ex, q_run1_set, q_run1_put, q_run1_ite, q_run1_whl, q_run1_for, q_run1_ret, q_run1_retN, q_run1_rais, q_run1_try, q_run1_brk, q_run1_cnt, q_run1_pas, q_runs_nil, q_runs_cons, q_runH_nil, q_runH_cons, tst, bltop, bindG, bindGs, cmpop, ofB, truthy, int1, int2, ltop, leop, binop, addop, subop, mulop, divop, modop, powop, ixop, items, litems, mkLst, lenop, intop, isiop, tyOf, putop, src, wipeP, f_law_couple, e1, e2, e3, e4, peq, scalP, eqF, c1', f1, f2]
        exact res_rt (leave_len (by omega) fun k e => by cases e)
      · have c2' := beq_f c2
        have e5 := s_pair k h3 v1 v2 c1 s2.up
        have lo := low_le (t := v1) c1
        refine ⟨low v1 v2, h3, ?_, ⟨Nat.lt_of_le_of_lt lo.1 m1, Nat.lt_of_le_of_lt lo.2 m2⟩, by omega, D3⟩
        rw [call_at pg_law_couple (args_pos rfl)]
        simp [body, q_ev_v, q_ev_non, q_ev_bl, q_ev_int, q_ev_str, q_ev_con, q_ev_tup, q_ev_lst, q_ev_bin, q_ev_neg, q_ev_not, q_ev_cmp, q_ev_chain, q_ev_and, q_ev_or, q_ev_ifx, q_ev_ix, q_ev_sl, q_ev_call, q_ev_blt, q_ev_isi, q_ev_met, q_ev_val, q_evs_nil, q_evs_cons, q_evAnd_cons, q_evAnd_cons2, q_evOr_cons, q_evOr_cons2, q_evIfs_none, q_evIfs_some, q_evo_none, q_evo_some, q_evi_ex, q_run1_ex, q_run1_set, q_run1_put, q_run1_ite, q_run1_whl, q_run1_for, q_run1_ret, q_run1_retN, q_run1_rais, q_run1_try, q_run1_brk, q_run1_cnt, q_run1_pas, q_runs_nil, q_runs_cons, q_runH_nil, q_runH_cons, tst, bltop, bindG, bindGs, cmpop, ofB, truthy, int1, int2, ltop, leop, binop, addop, subop, mulop, divop, modop, powop, ixop, items, litems, mkLst, lenop, intop, isiop, tyOf, putop, src, wipeP, f_law_couple, e1, e2, e3, e5, peq, scalP, eqF, c0', c1', c2']
        exact res_rt (leave_len (by omega) fun k e => by cases e)
/-- what a drawn number is -/
theorem s_own (k n : Nat) (h : MH) (hD : Dk h n) : ∃ p h', call PG (k+3) "_law_own" [.ref n] [] [] h = .ok (pr p) h' ∧ IsLow p ∧ Sm 1030 p.1 ∧ Sm 1031 p.2 ∧ h'.length = h.length ∧ Dk h' n := by
  obtain ⟨v1, h1, e1, s1, l1, D1⟩ := s_integer k n h hD
  obtain ⟨v2, h2, e2, s2, l2, D2⟩ := s_integer k n h1 D1
  obtain ⟨t3, h3, e3, a3, b3, l3, D3⟩ := s_take (k+1) n h2 3 D2 (by decide) (by decide)
  by_cases c0 : t3 = 0
  · subst c0
    have e5 := s_pair k h3 v1 2 (by decide) (small_nat 3 (by decide) 8998)
    have lo := low_le (t := v1) (b := 2) (by decide)
    refine ⟨low v1 2, h3, ?_, low_low (by decide), Nat.lt_of_le_of_lt lo.1 s1, Nat.lt_of_le_of_lt lo.2 (by decide), by omega, D3⟩
    rw [call_at pg_law_own (args_pos rfl)]
    simp [body, q_ev_v, q_ev_non, q_ev_bl, q_ev_int, q_ev_str, q_ev_con, q_ev_tup, q_ev_lst, q_ev_bin, q_ev_neg, q_ev_not, q_ev_cmp, q_ev_chain, q_ev_and, q_ev_or, q_ev_ifx, q_ev_ix, q_ev_sl, q_ev_call, q_ev_blt, q_ev_isi, q_ev_met, q_ev_val, q_evs_nil, q_evs_cons, q_evAnd_cons, q_evAnd_cons2, q_evOr_cons, q_evOr_cons2, q_evIfs_none, q_evIfs_some, q_evo_none, q_evo_some, q_evi_ex, q_run1_ex, q_run1_set, q_run1_put, q_run1_ite, q_run1_whl, q_run1_for, q_run1_ret, q_run1_retN, q_run1_rais, q_run1_try, q_run1_brk, q_run1_cnt, q_run1_pas, q_runs_nil, q_runs_cons, q_runH_nil, q_runH_cons, tst, bltop, bindG, bindGs, cmpop, ofB, truthy, int1, int2, ltop, leop, binop, addop, subop, mulop, divop, modop, powop, ixop, items, litems, mkLst, lenop, intop, isiop, tyOf, putop, src, wipeP, f_law_own, e1, e2, e3, e5, peq, scalP, eqF]
    exact res_rt (leave_len (by omega) fun k e => by cases e)
  · have c0' := beq_f c0
    by_cases c1 : v2 = 0
    · subst c1
      have e5 := s_pair k h3 v1 1 (by decide) (small_nat 3 (by decide) 8998)
      have lo := low_le (t := v1) (b := 1) (by decide)
      refine ⟨low v1 1, h3, ?_, low_low (by decide), Nat.lt_of_le_of_lt lo.1 s1, Nat.lt_of_le_of_lt lo.2 (by decide), by omega, D3⟩
      rw [call_at pg_law_own (args_pos rfl)]
      simp [body, q_ev_v, q_ev_non, q_ev_bl, q_ev_int, q_ev_str, q_ev_con, q_ev_tup, q_ev_lst, q_ev_bin, q_ev_neg, q_ev_not, q_ev_cmp, q_ev_chain, q_ev_and, q_ev_or, q_ev_ifx, q_ev_ix, q_ev_sl, q_ev_call, q_ev_blt, q_ev_isi, q_ev_met, q_ev_val, q_evs_nil, q_evs_cons, q_evAnd_cons, q_evAnd_cons2, q_evOr_cons, q_evOr_cons2, q_evIfs_none, q_evIfs_some, q_evo_none, q_evo_some, q_evi_ex, q_run1_ex, q_run1_set, q_run1_put, q_run1_ite, q_run1_whl, q_run1_for, q_run1_ret, q_run1_retN, q_run1_rais, q_run1_try, q_run1_brk, q_run1_cnt, q_run1_pas, q_runs_nil, q_runs_cons, q_runH_nil, q_runH_cons, tst, bltop, bindG, bindGs, cmpop, ofB, truthy, int1, int2, ltop, leop, binop, addop, subop, mulop, divop, modop, powop, ixop, items, litems, mkLst, lenop, intop, isiop, tyOf, putop, src, wipeP, f_law_own, e1, e2, e3, e5, peq, scalP, eqF, c0']
      exact res_rt (leave_len (by omega) fun k e => by cases e)
    · have c1' := beq_f c1
      have e5 := s_pair k h3 v1 v2 c1 s2.up
      have lo := low_le (t := v1) c1
      refine ⟨low v1 v2, h3, ?_, low_low c1, Nat.lt_of_le_of_lt lo.1 s1, Nat.lt_of_le_of_lt lo.2 s2.up, by omega, D3⟩
      rw [call_at pg_law_own (args_pos rfl)]
      simp [body, q_ev_v, q_ev_non, q_ev_bl, q_ev_int, q_ev_str, q_ev_con, q_ev_tup, q_ev_lst, q_ev_bin, q_ev_neg, q_ev_not, q_ev_cmp, q_ev_chain, q_ev_and, q_ev_or, q_ev_ifx, q_ev_ix, q_ev_sl, q_ev_call, q_ev_blt, q_ev_isi, q_ev_met, q_ev_val, q_evs_nil, q_evs_cons, q_evAnd_cons, q_evAnd_cons2, q_evOr_cons, q_evOr_cons2, q_evIfs_none, q_evIfs_some, q_evo_none, q_evo_some, q_evi_ex, q_run1_ex, q_run1_set, q_run1_put, q_run1_ite, q_run1_whl, q_run1_for, q_run1_ret, q_run1_retN, q_run1_rais, q_run1_try, q_run1_brk, q_run1_cnt, q_run1_pas, q_runs_nil, q_runs_cons, q_runH_nil, q_runH_cons, tst, bltop, bindG, bindGs, cmpop, ofB, truthy, int1, int2, ltop, leop, binop, addop, subop, mulop, divop, modop, powop, ixop, items, litems, mkLst, lenop, intop, isiop, tyOf, putop, src, wipeP, f_law_own, e1, e2, e3, e5, peq, scalP, eqF, c0', c1']
      exact res_rt (leave_len (by omega) fun k e => by cases e)
end Mx.K01


set_option linter.all false
set_option maxRecDepth 100000
set_option maxHeartbeats 4000000
set_option exponentiation.threshold 20000
namespace Mx.K01
open PySem PySem.Spec PyProof.Rows L2 Mx
theorem ix0 (p : Int × Int) (h : MH) : ixop (pr p) (.int 0) h = .ok (.int p.1) h := by simp [ixop, pr, items]
theorem ix1 (p : Int × Int) (h : MH) : ixop (pr p) (.int 1) h = .ok (.int p.2) h := by simp [ixop, pr, items]
theorem mul_ii {r : Bool} {i j : Int} {h : MH} (hf : fits i j) : mulop r (.int i) (.int j) h = .ok (.int (i * j)) h := by simp [mulop, hf]
theorem rep2 (x : PV) (h : MH) : mulop false (.lst [x]) (.int 2) h = .ok (.lst [x, x]) h := by
  have e : mulop false (.lst [x]) (.int 2) h = if -(2 ^ 63) ≤ (2 : Int) ∧ (2 : Int) < 2 ^ 63 ∧ [x].length * (2 : Int).toNat ≤ sizeLine then mkLst false (List.replicate (2 : Int).toNat [x]).flatten h else .stuck := rfl
  rw [e, if_pos ⟨by decide, by decide, by rw [sizeLine_eq, List.length_singleton]; decide⟩]
  rfl
section
variable (k : Nat) (h : MH) (x y : PV)
theorem kw_plus : call PG (k+1) "plus" [] ["b", "a"] [y, x] h = call PG (k+1) "plus" [x, y] [] [] h := call_kw pg_plus rfl rfl
theorem kw_minus : call PG (k+1) "minus" [] ["b", "a"] [y, x] h = call PG (k+1) "minus" [x, y] [] [] h := call_kw pg_minus rfl rfl
theorem kw_times : call PG (k+1) "times" [] ["b", "a"] [y, x] h = call PG (k+1) "times" [x, y] [] [] h := call_kw pg_times rfl rfl
theorem kw_by : call PG (k+1) "by" [] ["b", "a"] [y, x] h = call PG (k+1) "by" [x, y] [] [] h := call_kw pg_by rfl rfl
theorem kw_below : call PG (k+1) "below" [] ["b", "a"] [y, x] h = call PG (k+1) "below" [x, y] [] [] h := call_kw pg_below rfl rfl
theorem kw_number : call PG (k+1) "number" [] ["bottom", "top"] [y, x] h = call PG (k+1) "number" [x, y] [] [] h := call_kw pg_number rfl rfl
theorem kw_size : call PG (k+1) "size" [] ["a"] [x] h = call PG (k+1) "size" [x] [] [] h := call_kw pg_size rfl rfl
theorem kw_sign : call PG (k+1) "sign" [] ["a"] [x] h = call PG (k+1) "sign" [x] [] [] h := call_kw pg_sign rfl rfl
theorem kw_rounded : call PG (k+1) "rounded" [] ["a"] [x] h = call PG (k+1) "rounded" [x] [] [] h := call_kw pg_rounded rfl rfl
theorem kw_is_number : call PG (k+1) "is_number" [] ["told"] [x] h = call PG (k+1) "is_number" [x] [] [] h := call_kw pg_is_number rfl rfl
end
theorem same2 (k : Nat) (h : MH) (p : Int × Int) : call PG (k+3) "_law_same" [.lst [pr p, pr p], .lst [pr p, pr p]] [] [] h = .ok (.bl true) h :=
  s_same (k+2) _ h (by simp [dat, dats, pr]) (by simp [dep, deps, pr])
theorem sums_right (k : Nat) (h : MH) (p q : Int × Int) (hp : IsLow p) (hq : IsLow q) (h1 : SmP p) (h2 : SmP q) : call PG (k+6) "_law_sums_right" [pr p, pr q] [] [] h = .ok (.bl true) h := by
  rw [call_at pg_law_sums_right (args_pos rfl)]
  have e1 := s_plus (k+1) h p q hp hq h1 h2
  have e2 := s_law_plus (k+2) h p q hp.1 hq.1 h1 h2
  have e3 := s_minus (k+1) h p q hp hq h1 h2
  have e4 := s_law_plus (k+2) h p (neg q) hp.1 hq.1 h1 h2.neg
  have e5 := s_times (k+1) h p q hp hq h1 h2
  have e6 := s_law_times (k+2) h p q hp.1 hq.1 h1 h2
  have e7 := s_below (k+1) h p q hp hq h1 h2
  have e8 := s_below (k+1) h p p hp hp h1 h1
  have e9 := s_law_less (k+4) h p q h1 h2
  have d1 := same2 (k+2) h (add p q)
  have d2 := same2 (k+2) h (add p (neg q))
  have d3 := same2 (k+2) h (mul p q)
  have d4 : call PG (k+5) "_law_same" [.lst [.bl (decide (p.1 * q.2 < q.1 * p.2)), .bl (decide (p.1 * q.2 < q.1 * p.2)), .bl false], .lst [.bl (decide (p.1 * q.2 < q.1 * p.2)), .bl (decide (p.1 * q.2 < q.1 * p.2)), .bl false]] [] [] h = .ok (.bl true) h :=
    s_same (k+4) _ h (by simp [dat, dats]) (by simp [dep, deps])
  have hneg : (PV.tup [.int (-q.1), .int q.2]) = pr (neg q) := rfl
  have e8' : decide (p.1 * p.2 < p.1 * p.2) = false := decide_eq_false (by omega)
  rw [e8'] at e8
  have sl : 3 ≤ sizeLine := by rw [sizeLine_eq]; decide
  by_cases h0 : q.1 = 0
  · have h0b : (q.1 == 0) = true := by rw [h0]; rfl
    simp [body, q_ev_v, q_ev_non, q_ev_bl, q_ev_int, q_ev_str, q_ev_con, q_ev_tup, q_ev_lst, q_ev_bin, q_ev_neg, q_ev_not, q_ev_cmp, q_ev_chain, q_ev_and, q_ev_or, q_ev_ifx, q_ev_ix, q_ev_sl, q_ev_call, q_ev_blt, q_ev_isi, q_ev_met, q_ev_val, q_evs_nil, q_evs_cons, q_evAnd_cons, q_evAnd_cons2, q_evOr_cons, q_evOr_cons2, q_evIfs_none, q_evIfs_some, q_evo_none, q_evo_some, q_evi_ex, q_run1_ex, q_run1_set, q_run1_put, q_run1_ite, q_run1_whl, q_run1_for, q_run1_ret, q_run1_retN, q_run1_rais, q_run1_try, q_run1_brk, q_run1_cnt, q_run1_pas, q_runs_nil, q_runs_cons, q_runH_nil, q_runH_cons, tst, bltop, bindG, bindGs, cmpop, ofB, truthy, int1, int2, ltop, leop, binop, addop, subop, divop, modop, powop, items, litems, mkLst, lenop, intop, isiop, tyOf, putop, src, wipeP, ix0, ix1, mul_ii, rep2, f_law_sums_right, kw_plus, kw_minus, kw_times, kw_by, kw_below, e1, e2, e3, e4, e5, e6, e7, e8, e9, d1, d2, d3, d4, hneg, h0b, peq, scalP, eqF, sl]
    exact res_rt (leave_bl _ _)
  · have h0' := beq_f h0
    have ea := s_by (k+1) h p q hp hq h1 h2 h0
    have m1 : fits p.1 q.2 := (h1.1.up).fits (h2.2.up)
    have m2 : fits p.2 q.1 := (h1.2.up).fits (h2.1.up)
    have eb := s_pair (k+3) h (p.1 * q.2) (p.2 * q.1) (Int.mul_ne_zero (Int.ne_of_gt hp.1) h0) (Sm.up (Sm.mul h1.2 h2.1))
    have d5 := same2 (k+2) h (quo p q)
    have eb' : call PG (k+5) "_law_pair" [.int (p.1 * q.2), .int (p.2 * q.1)] [] [] h = .ok (pr (quo p q)) h := eb
    simp [body, q_ev_v, q_ev_non, q_ev_bl, q_ev_int, q_ev_str, q_ev_con, q_ev_tup, q_ev_lst, q_ev_bin, q_ev_neg, q_ev_not, q_ev_cmp, q_ev_chain, q_ev_and, q_ev_or, q_ev_ifx, q_ev_ix, q_ev_sl, q_ev_call, q_ev_blt, q_ev_isi, q_ev_met, q_ev_val, q_evs_nil, q_evs_cons, q_evAnd_cons, q_evAnd_cons2, q_evOr_cons, q_evOr_cons2, q_evIfs_none, q_evIfs_some, q_evo_none, q_evo_some, q_evi_ex, q_run1_ex, q_run1_set, q_run1_put, q_run1_ite, q_run1_whl, q_run1_for, q_run1_ret, q_run1_retN, q_run1_rais, q_run1_try, q_run1_brk, q_run1_cnt, q_run1_pas, q_runs_nil, q_runs_cons, q_runH_nil, q_runH_cons, tst, bltop, bindG, bindGs, cmpop, ofB, truthy, int1, int2, ltop, leop, binop, addop, subop, divop, modop, powop, items, litems, mkLst, lenop, intop, isiop, tyOf, putop, src, wipeP, ix0, ix1, mul_ii, rep2, f_law_sums_right, kw_plus, kw_minus, kw_times, kw_by, kw_below, e1, e2, e3, e4, e5, e6, e7, e8, e9, d1, d2, d3, d4, d5, ea, eb', m1, m2, hneg, h0', peq, scalP, eqF, sl]
    exact res_rt (leave_bl _ _)
end Mx.K01


set_option linter.all false
set_option maxRecDepth 100000
set_option maxHeartbeats 4000000
set_option exponentiation.threshold 20000
namespace Mx.K01
open PySem PySem.Spec PyProof.Rows L2 Mx
theorem one_right (k : Nat) (h : MH) (p : Int × Int) (hp : IsLow p) (h1 : SmP p) : call PG (k+6) "_law_one_right" [pr p] [] [] h = .ok (.bl true) h := by
  rw [call_at pg_law_one_right (args_pos rfl)]
  have e1 := s_size (k+1) h p hp h1
  have e2 := s_sign (k+1) h p hp h1
  have e3 := s_rounded (k+1) h p hp h1
  have ea : (if p.1 < 0 then -p.1 else p.1) = (p.1.natAbs : Int) := by split <;> omega
  have p0 := hp.1
  have hfold : (PV.tup [.int (p.1.natAbs : Int), .int p.2]) = pr ((p.1.natAbs : Int), p.2) := rfl
  have es : ((if 0 < p.1 then (1 : Int) else 0) - (if p.1 < 0 then (1 : Int) else 0)) = sgn p := by
    unfold sgn
    split <;> split <;> split <;> (try split) <;> omega
  have d1 : call PG (k+5) "_law_same" [.lst [pr ((p.1.natAbs : Int), p.2), pr ((p.1.natAbs : Int), p.2), .int (sgn p), .int (sgn p)], .lst [pr ((p.1.natAbs : Int), p.2), pr ((p.1.natAbs : Int), p.2), .int (sgn p), .int (sgn p)]] [] [] h = .ok (.bl true) h :=
    s_same (k+4) _ h (by simp [dat, dats, pr]) (by simp [dep, deps, pr])
  have hr : -(2 * p.2) < 2 * p.2 := by omega
  generalize hR : (2 * p.1 + p.2).fdiv (2 * p.2) = R at e3
  have d2 : call PG (k+5) "_law_same" [.int R, .int R] [] [] h = .ok (.bl true) h := s_same (k+4) _ h rfl (Nat.zero_le _)
  have q1 : 2 * p.2 * R + (2 * p.1 + p.2) % (2 * p.2) = 2 * p.1 + p.2 := by
    rw [← hR, Int.fdiv_eq_ediv_of_nonneg _ (by omega)]
    exact Int.mul_ediv_add_emod _ _
  have q2 := Int.emod_nonneg (2 * p.1 + p.2) (show 2 * p.2 ≠ 0 by omega)
  have q3 := Int.emod_lt_of_pos (2 * p.1 + p.2) (show 0 < 2 * p.2 by omega)
  have r1 : R * 2 * p.2 ≤ 2 * p.1 + p.2 := by
    have : R * 2 * p.2 = 2 * p.2 * R := by rw [Int.mul_assoc, Int.mul_comm]
    omega
  have r2 : 2 * p.1 + p.2 < (R + 1) * 2 * p.2 := by
    have : (R + 1) * 2 * p.2 = 2 * p.2 * R + 2 * p.2 := by rw [Int.mul_assoc, Int.add_mul, Int.one_mul, Int.mul_comm R]
    omega
  -- how great the rounded number is
  have sR : Sm 4500 R := by
    have a1 : R.natAbs ≤ (2 * p.1 + p.2).natAbs := by
      rw [← hR, Int.fdiv_eq_ediv_of_nonneg _ (by omega)]
      exact Int.natAbs_ediv_le_natAbs _ _
    refine Nat.lt_of_le_of_lt a1 ?_
    exact Sm.up (n := 4403) (Sm.add (Sm.up (n := 4402) (Sm.mul (n := 2) (small_nat 3 (by decide) 2) h1.1)) h1.2.up)
  have m1 : fits 2 p.1 := Sm.fits (small_nat 3 (by decide) 9000) h1.1.up
  have m2 : fits R 2 := Sm.fits sR.up (small_nat 3 (by decide) 9000)
  have m3 : fits (R * 2) p.2 := Sm.fits (Sm.up (Sm.mul (m := 2) sR (small_nat 3 (by decide) 2))) h1.2.up
  have sR1 : Sm 4501 (R + 1) := Sm.add sR (small_nat 2 (by decide) 4500)
  have m4 : fits (R + 1) 2 := Sm.fits sR1.up (small_nat 3 (by decide) 9000)
  have m5 : fits ((R + 1) * 2) p.2 := Sm.fits (Sm.up (Sm.mul (m := 2) sR1 (small_nat 3 (by decide) 2))) h1.2.up
  have sl : 2 + 2 ≤ sizeLine := by rw [sizeLine_eq]; decide
  simp [body, q_ev_v, q_ev_non, q_ev_bl, q_ev_int, q_ev_str, q_ev_con, q_ev_tup, q_ev_lst, q_ev_bin, q_ev_neg, q_ev_not, q_ev_cmp, q_ev_chain, q_ev_and, q_ev_or, q_ev_ifx, q_ev_ix, q_ev_sl, q_ev_call, q_ev_blt, q_ev_isi, q_ev_met, q_ev_val, q_evs_nil, q_evs_cons, q_evAnd_cons, q_evAnd_cons2, q_evOr_cons, q_evOr_cons2, q_evIfs_none, q_evIfs_some, q_evo_none, q_evo_some, q_evi_ex, q_run1_ex, q_run1_set, q_run1_put, q_run1_ite, q_run1_whl, q_run1_for, q_run1_ret, q_run1_retN, q_run1_rais, q_run1_try, q_run1_brk, q_run1_cnt, q_run1_pas, q_runs_nil, q_runs_cons, q_runH_nil, q_runH_cons, tst, bltop, bindG, bindGs, cmpop, ofB, truthy, int1, int2, ltop, leop, binop, addop, subop, divop, modop, powop, items, litems, mkLst, lenop, intop, isiop, tyOf, putop, src, wipeP, ix0, ix1, mul_ii, rep2, f_law_one_right, kw_size, kw_sign, kw_rounded, e1, e2, e3, ea, hfold, es, d1, d2, subB, m1, m2, m3, m4, m5, r1, r2, sl]
  exact res_rt (leave_bl _ _)
theorem exc_PG : PG.exc = [("InvalidNumber" : Str), ("DividedByZero" : Str)] := by rfl
theorem ec1 : PG.exc.contains ("DividedByZero" : Str) = true := by rw [exc_PG]; decide +kernel
theorem es1 : subT PG.exc ("DividedByZero" : Str) ("InvalidNumber" : Str) = false := by rw [exc_PG]; decide +kernel
theorem es2 : subT PG.exc ("DividedByZero" : Str) ("DividedByZero" : Str) = true := by rw [exc_PG]; decide +kernel
theorem divided0 (k : Nat) (h : MH) (p : Int × Int) (b : Bool) : call PG (k+6) "_law_divided" [.int 0, pr p, .bl b] [] [] h = .ok (.lst [.str "zero", .int p.1]) h := by
  rw [call_at pg_law_divided (args_pos rfl)]
  have e1 := s_number0 (k+4) h p.1
  have x1 := ec1
  have x2 := es1
  have x3 := es2
  cases b <;> simp [body, q_ev_v, q_ev_non, q_ev_bl, q_ev_int, q_ev_str, q_ev_con, q_ev_tup, q_ev_lst, q_ev_bin, q_ev_neg, q_ev_not, q_ev_cmp, q_ev_chain, q_ev_and, q_ev_or, q_ev_ifx, q_ev_ix, q_ev_sl, q_ev_call, q_ev_blt, q_ev_isi, q_ev_met, q_ev_val, q_evs_nil, q_evs_cons, q_evAnd_cons, q_evAnd_cons2, q_evOr_cons, q_evOr_cons2, q_evIfs_none, q_evIfs_some, q_evo_none, q_evo_some, q_evi_ex, q_run1_ex, q_run1_set, q_run1_put, q_run1_ite, q_run1_whl, q_run1_for, q_run1_ret, q_run1_retN, q_run1_rais, q_run1_try, q_run1_brk, q_run1_cnt, q_run1_pas, q_runs_nil, q_runs_cons, q_runH_nil, q_runH_cons, tst, bltop, bindG, bindGs, cmpop, ofB, truthy, int1, int2, ltop, leop, binop, addop, subop, divop, modop, powop, items, litems, mkLst, lenop, intop, isiop, tyOf, putop, src, wipeP, ix0, ix1, mul_ii, rep2, f_law_divided, kw_number, e1, peq, scalP, eqF, x1, x2, x3, Out.gone] <;> exact res_rt (leave_lst _ _)
theorem divided1 (k : Nat) (h : MH) (p : Int × Int) (b : Bool) (hp : IsLow p) (h1 : SmP p) : call PG (k+6) "_law_divided" [.int 1, pr p, .bl b] [] [] h = .ok (.lst [.str "zero", pr p]) h := by
  rw [call_at pg_law_divided (args_pos rfl)]
  have e1 := s_by0 (k+1) h p hp h1
  have hf : PV.tup [.int 0, .int 1] = pr (0, 1) := rfl
  have x1 := ec1
  have x2 := es1
  have x3 := es2
  cases b <;> simp [body, q_ev_v, q_ev_non, q_ev_bl, q_ev_int, q_ev_str, q_ev_con, q_ev_tup, q_ev_lst, q_ev_bin, q_ev_neg, q_ev_not, q_ev_cmp, q_ev_chain, q_ev_and, q_ev_or, q_ev_ifx, q_ev_ix, q_ev_sl, q_ev_call, q_ev_blt, q_ev_isi, q_ev_met, q_ev_val, q_evs_nil, q_evs_cons, q_evAnd_cons, q_evAnd_cons2, q_evOr_cons, q_evOr_cons2, q_evIfs_none, q_evIfs_some, q_evo_none, q_evo_some, q_evi_ex, q_run1_ex, q_run1_set, q_run1_put, q_run1_ite, q_run1_whl, q_run1_for, q_run1_ret, q_run1_retN, q_run1_rais, q_run1_try, q_run1_brk, q_run1_cnt, q_run1_pas, q_runs_nil, q_runs_cons, q_runH_nil, q_runH_cons, tst, bltop, bindG, bindGs, cmpop, ofB, truthy, int1, int2, ltop, leop, binop, addop, subop, divop, modop, powop, items, litems, mkLst, lenop, intop, isiop, tyOf, putop, src, wipeP, ix0, ix1, mul_ii, rep2, f_law_divided, kw_by, hf, e1, peq, scalP, eqF, x1, x2, x3, Out.gone] <;> exact res_rt (leave_lst _ _)
end Mx.K01


set_option linter.all false
set_option maxRecDepth 100000
set_option maxHeartbeats 4000000
set_option exponentiation.threshold 20000
namespace Mx.K01
open PySem PySem.Spec PyProof.Rows L2 Mx
def tailR : Ass := match f_law_right.body with
  | .cons _ (.cons _ t) => t
  | _ => .nil
theorem right_tail (k d : Nat) (h : MH) (c m n : Int × Int) (hD : Dk h d) (hc : SmP c) (hm : IsLow m) (hn : IsLow n) (sm : SmP m) (sn : SmP n) :
    ∃ h', runs PG (call PG (k+6)) tailR [some (.ref d), some (pr c), some (pr m), some (pr n), none, none] h = .rt (.bl true) h' ∧ h'.length = h.length ∧ Dk h' d := by
  obtain ⟨t, h1, e1, a1, b1, l1, D1⟩ := s_take (k+5) d h 2 hD (by decide) (by decide)
  refine ⟨h1, ?_, l1, D1⟩
  have e2 := s_is_number (k+4) h c hc.2.up
  have e3 := s_is_number (k+4) h m sm.2.up
  have e4 := s_law_is (k+4) h c
  have hlm : decide (IsLow m) = true := decide_eq_true hm
  rw [hlm] at e3
  have d1 : call PG (k+6) "_law_same" [.lst [.bl (decide (IsLow c)), .bl (decide (IsLow c)), .bl true], .lst [.bl (decide (IsLow c)), .bl (decide (IsLow c)), .bl true]] [] [] h = .ok (.bl true) h :=
    s_same (k+5) _ h (by simp [dat, dats]) (by simp [dep, deps])
  have f0 := divided0 k h1 m (t == 1)
  have f1 := divided1 k h1 m (t == 1) hm sm
  have d2 : call PG (k+6) "_law_same" [.lst [.lst [.str "zero", .int m.1], .lst [.str "zero", pr m]], .lst [.lst [.str "zero", .int m.1], .lst [.str "zero", pr m]]] [] [] h1 = .ok (.bl true) h1 :=
    s_same (k+5) _ h1 (by simp [dat, dats, pr]) (by simp [dep, deps, pr])
  have g1 := sums_right k h1 m n hm hn sm sn
  have g2 := sums_right k h1 n m hn hm sn sm
  have g3 := one_right k h1 m hm sm
  have g4 := one_right k h1 n hn sn
  have sl : 2 + 1 ≤ sizeLine := by rw [sizeLine_eq]; decide
  by_cases c0 : c.2 = 0
  · have c0' : (c.2 == 0) = true := by rw [c0]; rfl
    simp [body, q_ev_v, q_ev_non, q_ev_bl, q_ev_int, q_ev_str, q_ev_con, q_ev_tup, q_ev_lst, q_ev_bin, q_ev_neg, q_ev_not, q_ev_cmp, q_ev_chain, q_ev_and, q_ev_or, q_ev_ifx, q_ev_ix, q_ev_sl, q_ev_call, q_ev_blt, q_ev_isi, q_ev_met, q_ev_val, q_evs_nil, q_evs_cons, q_evAnd_cons, q_evAnd_cons2, q_evOr_cons, q_evOr_cons2, q_evIfs_none, q_evIfs_some, q_evo_none, q_evo_some, q_evi_ex, q_run1_ex, q_run1_set, q_run1_put, q_run1_ite, q_run1_whl, q_run1_for, q_run1_ret, q_run1_retN, q_run1_rais, q_run1_try, q_run1_brk, q_run1_cnt, q_run1_pas, q_runs_nil, q_runs_cons, q_runH_nil, q_runH_cons, tst, bltop, bindG, bindGs, cmpop, ofB, truthy, int1, int2, ltop, leop, binop, addop, subop, divop, modop, powop, items, litems, mkLst, lenop, intop, isiop, tyOf, putop, src, wipeP, ix0, ix1, mul_ii, rep2, tailR, f_law_right, kw_is_number, e1, e2, e3, e4, d1, f0, f1, d2, g1, g2, g3, g4, peq, scalP, eqF, c0', sl]
  · have c0' := beq_f c0
    have e5 := s_pair (k+4) h c.1 c.2 c0 hc.2.up
    have e6 := s_number (k+4) h c.1 c.2 c0 hc.2.up
    have d3 := same2 (k+3) h (low c.1 c.2)
    simp [body, q_ev_v, q_ev_non, q_ev_bl, q_ev_int, q_ev_str, q_ev_con, q_ev_tup, q_ev_lst, q_ev_bin, q_ev_neg, q_ev_not, q_ev_cmp, q_ev_chain, q_ev_and, q_ev_or, q_ev_ifx, q_ev_ix, q_ev_sl, q_ev_call, q_ev_blt, q_ev_isi, q_ev_met, q_ev_val, q_evs_nil, q_evs_cons, q_evAnd_cons, q_evAnd_cons2, q_evOr_cons, q_evOr_cons2, q_evIfs_none, q_evIfs_some, q_evo_none, q_evo_some, q_evi_ex, q_run1_ex, q_run1_set, q_run1_put, q_run1_ite, q_run1_whl, q_run1_for, q_run1_ret, q_run1_retN, q_run1_rais, q_run1_try, q_run1_brk, q_run1_cnt, q_run1_pas, q_runs_nil, q_runs_cons, q_runH_nil, q_runH_cons, tst, bltop, bindG, bindGs, cmpop, ofB, truthy, int1, int2, ltop, leop, binop, addop, subop, divop, modop, powop, items, litems, mkLst, lenop, intop, isiop, tyOf, putop, src, wipeP, ix0, ix1, mul_ii, rep2, tailR, f_law_right, kw_is_number, kw_number, e1, e2, e3, e4, e5, e6, d1, d3, f0, f1, d2, g1, g2, g3, g4, peq, scalP, eqF, c0', sl]
theorem s_right (k d : Nat) (h : MH) (hD : Dk h d) : ∃ h', call PG (k+7) "_law_right" [.ref d] [] [] h = .ok (.bl true) h' ∧ h'.length = h.length ∧ Dk h' d := by
  obtain ⟨c, h1, e1, sc, l1, D1⟩ := s_couple (k+3) d h hD
  obtain ⟨m, h2, e2, lm, sm1, sm2, l2, D2⟩ := s_own (k+3) d h1 D1
  obtain ⟨n, h3, e3, ln, sn1, sn2, l3, D3⟩ := s_own (k+3) d h2 D2
  obtain ⟨t, h4, e4, a4, b4, l4, D4⟩ := s_take (k+5) d h3 4 D3 (by decide) (by decide)
  have sm : SmP m := ⟨sm1.up, sm2.up⟩
  have sn : SmP n := ⟨sn1.up, sn2.up⟩
  have hb : f_law_right.body = .cons (.set (.tp (.cons (.nm 1) (.cons (.nm 2) (.cons (.nm 3) .nil)))) (.tup (.cons (.call "_law_couple" (.cons (.v 0) .nil) [] .nil) (.cons (.call "_law_own" (.cons (.v 0) .nil) [] .nil) (.cons (.call "_law_own" (.cons (.v 0) .nil) [] .nil) .nil))))) (.cons (.ite (.cmp .eq (.call "_law_take" (.cons (.v 0) (.cons (.int 4) .nil)) [] .nil) (.int 0)) (.cons (.set (.nm 3) (.call "_law_plus" (.cons (.v 2) (.cons (.call "_law_pair" (.cons (.bin .sub false (.call "_law_take" (.cons (.v 0) (.cons (.int 3) .nil)) [] .nil) (.int 1)) (.cons (.bin .mul false (.ix (.v 2) (.int 1)) (.bin .add false (.int 1) (.call "_law_take" (.cons (.v 0) (.cons (.int 3) .nil)) [] .nil))) .nil)) [] .nil) .nil)) [] .nil)) .nil) .nil) tailR) := rfl
  rw [call_at pg_law_right (args_pos rfl)]
  have hbd : body PG (call PG (k+6)) f_law_right [.ref d] h = (runs PG (call PG (k+6)) f_law_right.body [some (.ref d), none, none, none, none, none] h).res false h := rfl
  rw [hbd, hb]
  by_cases c0 : t = 0
  · subst c0
    obtain ⟨t5, h5, e5, a5, b5, l5, D5⟩ := s_take (k+5) d h4 3 D4 (by decide) (by decide)
    obtain ⟨t6, h6, e6, a6, b6, l6, D6⟩ := s_take (k+5) d h5 3 D5 (by decide) (by decide)
    have st6 : Sm 3 (1 + t6) := small_nat 4 (by omega) 3
    have m1 : fits m.2 (1 + t6) := Sm.fits sm2.up st6.up
    have sq : Sm 1034 (m.2 * (1 + t6)) := Sm.mul sm2 st6
    have hq0 : m.2 * (1 + t6) ≠ 0 := Int.mul_ne_zero (Int.ne_of_gt lm.1) (by omega)
    have e7 := s_pair (k+4) h6 (t5 - 1) (m.2 * (1 + t6)) hq0 sq.up
    have lo := low_le (t := t5 - 1) hq0
    have lq := low_low (t := t5 - 1) hq0
    generalize hq : low (t5 - 1) (m.2 * (1 + t6)) = q at e7 lo lq
    have sq1 : Sm 3 q.1 := Nat.lt_of_le_of_lt lo.1 (by show (t5 - 1).natAbs < 8; omega)
    have sq2 : Sm 1034 q.2 := Nat.lt_of_le_of_lt lo.2 sq
    have e8 := s_law_plus (k+3) h6 m q lm.1 lq.1 sm ⟨sq1.up, sq2.up⟩
    have hd0 : m.2 * q.2 ≠ 0 := Int.ne_of_gt (Int.mul_pos lm.1 lq.1)
    have ln' : IsLow (add m q) := low_low hd0
    have lo2 := low_le (t := m.1 * q.2 + q.1 * m.2) hd0
    have sn' : SmP (add m q) := ⟨Nat.lt_of_le_of_lt lo2.1 (Sm.up (n := 2066) (Sm.add (Sm.up (n := 2064) (Sm.mul sm1 sq2)) (Sm.up (n := 1034) (Sm.mul sq1 sm2)))), Nat.lt_of_le_of_lt lo2.2 (Sm.up (Sm.mul sm2 sq2))⟩
    obtain ⟨h7, e9, l7, D7⟩ := right_tail k d h6 c m (add m q) D6 sc lm ln' sm sn'
    refine ⟨h7, ?_, by omega, D7⟩
    simp [body, q_ev_v, q_ev_non, q_ev_bl, q_ev_int, q_ev_str, q_ev_con, q_ev_tup, q_ev_lst, q_ev_bin, q_ev_neg, q_ev_not, q_ev_cmp, q_ev_chain, q_ev_and, q_ev_or, q_ev_ifx, q_ev_ix, q_ev_sl, q_ev_call, q_ev_blt, q_ev_isi, q_ev_met, q_ev_val, q_evs_nil, q_evs_cons, q_evAnd_cons, q_evAnd_cons2, q_evOr_cons, q_evOr_cons2, q_evIfs_none, q_evIfs_some, q_evo_none, q_evo_some, q_evi_ex, q_run1_ex, q_run1_set, q_run1_put, q_run1_ite, q_run1_whl, q_run1_for, q_run1_ret, q_run1_retN, q_run1_rais, q_run1_try, q_run1_brk, q_run1_cnt, q_run1_pas, q_runs_nil, q_runs_cons, q_runH_nil, q_runH_cons, tst, bltop, bindG, bindGs, cmpop, ofB, truthy, int1, int2, ltop, leop, binop, addop, subop, divop, modop, powop, items, litems, mkLst, lenop, intop, isiop, tyOf, putop, src, wipeP, ix0, ix1, mul_ii, rep2, e1, e2, e3, e4, e5, e6, e7, e8, e9, m1, peq, scalP, eqF]
    exact res_rt (leave_len (by omega) fun k e => by cases e)
  · have c0' := beq_f c0
    obtain ⟨h7, e9, l7, D7⟩ := right_tail k d h4 c m n D4 sc lm ln sm sn
    refine ⟨h7, ?_, by omega, D7⟩
    simp [body, q_ev_v, q_ev_non, q_ev_bl, q_ev_int, q_ev_str, q_ev_con, q_ev_tup, q_ev_lst, q_ev_bin, q_ev_neg, q_ev_not, q_ev_cmp, q_ev_chain, q_ev_and, q_ev_or, q_ev_ifx, q_ev_ix, q_ev_sl, q_ev_call, q_ev_blt, q_ev_isi, q_ev_met, q_ev_val, q_evs_nil, q_evs_cons, q_evAnd_cons, q_evAnd_cons2, q_evOr_cons, q_evOr_cons2, q_evIfs_none, q_evIfs_some, q_evo_none, q_evo_some, q_evi_ex, q_run1_ex, q_run1_set, q_run1_put, q_run1_ite, q_run1_whl, q_run1_for, q_run1_ret, q_run1_retN, q_run1_rais, q_run1_try, q_run1_brk, q_run1_cnt, q_run1_pas, q_runs_nil, q_runs_cons, q_runH_nil, q_runH_cons, tst, bltop, bindG, bindGs, cmpop, ofB, truthy, int1, int2, ltop, leop, binop, addop, subop, divop, modop, powop, items, litems, mkLst, lenop, intop, isiop, tyOf, putop, src, wipeP, ix0, ix1, mul_ii, rep2, e1, e2, e3, e4, e9, peq, scalP, eqF, c0']
    exact res_rt (leave_len (by omega) fun k e => by cases e)
end Mx.K01


set_option linter.all false
set_option maxRecDepth 100000
set_option maxHeartbeats 4000000
set_option exponentiation.threshold 20000
namespace Mx.K01
open PySem PySem.Spec PyProof.Rows L2 Mx
theorem s_deck (k i : Nat) (h : MH) (ns : List Int) (hi : i < 64) : ∃ h', call PG (k+1) "_law_deck" [.lst (ns.map .int), .int i] [] [] h = .ok (.ref h.length) h' ∧ Dk h' h.length := by
  have f1 : fits 7919 (i : Int) := Sm.fits (small_nat 8000 (by decide) 9000) (small_nat 64 (by omega) 9000)
  have f2 : fits 31 (i : Int) := Sm.fits (small_nat 8000 (by decide) 9000) (small_nat 64 (by omega) 9000)
  -- what is made of the cell
  have key : ∀ c : Int, (∃ h', runs PG (call PG k) (match f_law_deck.body with | .cons _ (.cons _ t) => t | _ => .nil) [some (.lst (ns.map .int)), some (.int i), some (.int c), none] h = .rt (.ref h.length) h' ∧ Dk h' h.length) := by
    intro c
    generalize hs : (c + 7919 * (i : Int) + 104729).fmod 2305843009213693951 = s
    have s0 : 0 ≤ s := by rw [← hs]; exact Int.fmod_nonneg_of_pos _ (by decide)
    have s1 : s < 2305843009213693951 := by rw [← hs]; exact Int.fmod_lt_of_pos _ (by decide)
    have ss : Sm 62 s := small_nat 2305843009213693951 (by omega) 62
    have m1 : fits s s := Sm.fits ss.up ss.up
    have m2 : fits (s * s) s := Sm.fits (Sm.up (Sm.mul ss ss)) ss.up
    generalize hr : (s * s * s + 31 * (i : Int) + 7).fmod 2305843009213693951 = r
    have r0 : 0 ≤ r := by rw [← hr]; exact Int.fmod_nonneg_of_pos _ (by decide)
    have r1 : r < 2305843009213693951 := by rw [← hr]; exact Int.fmod_lt_of_pos _ (by decide)
    by_cases hc : c < 1000000000000000000
    · refine ⟨h ++ [.lst [.int 0, .int r]], ?_, 0, r, by decide, r0, by omega, by simp⟩
      simp [body, q_ev_v, q_ev_non, q_ev_bl, q_ev_int, q_ev_str, q_ev_con, q_ev_tup, q_ev_lst, q_ev_bin, q_ev_neg, q_ev_not, q_ev_cmp, q_ev_chain, q_ev_and, q_ev_or, q_ev_ifx, q_ev_ix, q_ev_sl, q_ev_call, q_ev_blt, q_ev_isi, q_ev_met, q_ev_val, q_evs_nil, q_evs_cons, q_evAnd_cons, q_evAnd_cons2, q_evOr_cons, q_evOr_cons2, q_evIfs_none, q_evIfs_some, q_evo_none, q_evo_some, q_evi_ex, q_run1_ex, q_run1_set, q_run1_put, q_run1_ite, q_run1_whl, q_run1_for, q_run1_ret, q_run1_retN, q_run1_rais, q_run1_try, q_run1_brk, q_run1_cnt, q_run1_pas, q_runs_nil, q_runs_cons, q_runH_nil, q_runH_cons, tst, bltop, bindG, bindGs, cmpop, ofB, truthy, int1, int2, ltop, leop, binop, addop, subop, mulop, divop, modop, powop, ixop, items, litems, mkLst, lenop, intop, isiop, tyOf, putop, src, wipeP, f_law_deck, f1, f2, hs, m1, m2, hr, hc]
    · refine ⟨h ++ [.lst [.int (c - 1000000000000000000), .int r]], ?_, c - 1000000000000000000, r, by omega, r0, by omega, by simp⟩
      simp [body, q_ev_v, q_ev_non, q_ev_bl, q_ev_int, q_ev_str, q_ev_con, q_ev_tup, q_ev_lst, q_ev_bin, q_ev_neg, q_ev_not, q_ev_cmp, q_ev_chain, q_ev_and, q_ev_or, q_ev_ifx, q_ev_ix, q_ev_sl, q_ev_call, q_ev_blt, q_ev_isi, q_ev_met, q_ev_val, q_evs_nil, q_evs_cons, q_evAnd_cons, q_evAnd_cons2, q_evOr_cons, q_evOr_cons2, q_evIfs_none, q_evIfs_some, q_evo_none, q_evo_some, q_evi_ex, q_run1_ex, q_run1_set, q_run1_put, q_run1_ite, q_run1_whl, q_run1_for, q_run1_ret, q_run1_retN, q_run1_rais, q_run1_try, q_run1_brk, q_run1_cnt, q_run1_pas, q_runs_nil, q_runs_cons, q_runH_nil, q_runH_cons, tst, bltop, bindG, bindGs, cmpop, ofB, truthy, int1, int2, ltop, leop, binop, addop, subop, mulop, divop, modop, powop, ixop, items, litems, mkLst, lenop, intop, isiop, tyOf, putop, src, wipeP, f_law_deck, f1, f2, hs, m1, m2, hr, hc]
  rw [call_at pg_law_deck (args_pos rfl)]
  have hbd : body PG (call PG k) f_law_deck [.lst (ns.map .int), .int i] h = (runs PG (call PG k) f_law_deck.body [some (.lst (ns.map .int)), some (.int i), none, none] h).res true h := rfl
  have hb : f_law_deck.body = .cons (.set (.nm 2) (.int 0)) (.cons (.ite (.cmp .lt (.v 1) (.blt .len false (.cons (.v 0) .nil))) (.cons (.set (.nm 2) (.ix (.v 0) (.v 1))) .nil) .nil) (match f_law_deck.body with | .cons _ (.cons _ t) => t | _ => .nil)) := rfl
  rw [hbd, hb]
  generalize hT : (match f_law_deck.body with | .cons _ (.cons _ t) => t | _ => Ass.nil) = T at key
  by_cases hlt : i < ns.length
  · obtain ⟨h', e, D⟩ := key ns[i]
    refine ⟨h', ?_, D⟩
    have hat : atI (ns.map PV.int) (i : Int) = some (.int ns[i]) := by
      rw [atI_nat (by rw [List.length_map]; exact hlt)]
      simp
    have hc : ((i : Int) < (ns.length : Int)) := by omega
    simp [body, q_ev_v, q_ev_non, q_ev_bl, q_ev_int, q_ev_str, q_ev_con, q_ev_tup, q_ev_lst, q_ev_bin, q_ev_neg, q_ev_not, q_ev_cmp, q_ev_chain, q_ev_and, q_ev_or, q_ev_ifx, q_ev_ix, q_ev_sl, q_ev_call, q_ev_blt, q_ev_isi, q_ev_met, q_ev_val, q_evs_nil, q_evs_cons, q_evAnd_cons, q_evAnd_cons2, q_evOr_cons, q_evOr_cons2, q_evIfs_none, q_evIfs_some, q_evo_none, q_evo_some, q_evi_ex, q_run1_ex, q_run1_set, q_run1_put, q_run1_ite, q_run1_whl, q_run1_for, q_run1_ret, q_run1_retN, q_run1_rais, q_run1_try, q_run1_brk, q_run1_cnt, q_run1_pas, q_runs_nil, q_runs_cons, q_runH_nil, q_runH_cons, tst, bltop, bindG, bindGs, cmpop, ofB, truthy, int1, int2, ltop, leop, binop, addop, subop, mulop, divop, modop, powop, ixop, items, litems, mkLst, lenop, intop, isiop, tyOf, putop, src, wipeP, hat, hc, hlt, e]
    exact res_kp
  · obtain ⟨h', e, D⟩ := key 0
    refine ⟨h', ?_, D⟩
    have hc : ¬ ((i : Int) < (ns.length : Int)) := by omega
    simp [body, q_ev_v, q_ev_non, q_ev_bl, q_ev_int, q_ev_str, q_ev_con, q_ev_tup, q_ev_lst, q_ev_bin, q_ev_neg, q_ev_not, q_ev_cmp, q_ev_chain, q_ev_and, q_ev_or, q_ev_ifx, q_ev_ix, q_ev_sl, q_ev_call, q_ev_blt, q_ev_isi, q_ev_met, q_ev_val, q_evs_nil, q_evs_cons, q_evAnd_cons, q_evAnd_cons2, q_evOr_cons, q_evOr_cons2, q_evIfs_none, q_evIfs_some, q_evo_none, q_evo_some, q_evi_ex, q_run1_ex, q_run1_set, q_run1_put, q_run1_ite, q_run1_whl, q_run1_for, q_run1_ret, q_run1_retN, q_run1_rais, q_run1_try, q_run1_brk, q_run1_cnt, q_run1_pas, q_runs_nil, q_runs_cons, q_runH_nil, q_runH_cons, tst, bltop, bindG, bindGs, cmpop, ofB, truthy, int1, int2, ltop, leop, binop, addop, subop, mulop, divop, modop, powop, ixop, items, litems, mkLst, lenop, intop, isiop, tyOf, putop, src, wipeP, hc, hlt, e]
    exact res_kp
/-! the law's loops -/
def b1 : Ass := match l_law_1 with
  | .for _ _ b => b
  | _ => .nil
def lit2 : Ae := match l_law_2 with
  | .for _ (.ex e) _ => e
  | _ => .non
def b2 : Ass := match l_law_2 with
  | .for _ _ b => b
  | _ => .nil
theorem loop1 (k : Nat) (ns : List Int) : ∀ (xs : List Nat) (h : MH) (v : Option PV), (∀ x ∈ xs, x < 64) → ∃ h' v', forL (fun x ρ h => match bindG (.nm 1) x ρ h with
    | some ρ' => runs PG (call PG (k+7)) b1 ρ' h
    | none => .stuck) [] (xs.map fun (k : Nat) => PV.int (k : Int)) [some (.lst (ns.map .int)), v, none] h = .nx [some (.lst (ns.map .int)), v', none] h'
  | [], h, v, _ => ⟨h, v, by rw [List.map_nil, forL_nil0]⟩
  | x :: xs, h, v, hx => by
    obtain ⟨h1, e1, D1⟩ := s_deck (k+6) x h ns (hx x List.mem_cons_self)
    obtain ⟨h2, e2, l2, D2⟩ := s_right k h.length h1 D1
    obtain ⟨h3, v3, e3⟩ := loop1 k ns xs h2 (some (.int x)) fun y hy => hx y (List.mem_cons_of_mem _ hy)
    refine ⟨h3, v3, ?_⟩
    rw [List.map_cons, forL_cons0]
    have hr : (match bindG (.nm 1) (.int x) [some (.lst (ns.map .int)), v, none] h with
      | some ρ' => runs PG (call PG (k+7)) b1 ρ' h
      | none => .stuck) = .nx [some (.lst (ns.map .int)), some (.int x), none] h2 := by
      simp [body, q_ev_v, q_ev_non, q_ev_bl, q_ev_int, q_ev_str, q_ev_con, q_ev_tup, q_ev_lst, q_ev_bin, q_ev_neg, q_ev_not, q_ev_cmp, q_ev_chain, q_ev_and, q_ev_or, q_ev_ifx, q_ev_ix, q_ev_sl, q_ev_call, q_ev_blt, q_ev_isi, q_ev_met, q_ev_val, q_evs_nil, q_evs_cons, q_evAnd_cons, q_evAnd_cons2, q_evOr_cons, q_evOr_cons2, q_evIfs_none, q_evIfs_some, q_evo_none, q_evo_some, q_evi_ex, q_run1_ex, q_run1_set, q_run1_put, q_run1_ite, q_run1_whl, q_run1_for, q_run1_ret, q_run1_retN, q_run1_rais, q_run1_try, q_run1_brk, q_run1_cnt, q_run1_pas, q_runs_nil, q_runs_cons, q_runH_nil, q_runH_cons, tst, bltop, bindG, bindGs, cmpop, ofB, truthy, int1, int2, ltop, leop, binop, addop, subop, mulop, divop, modop, powop, ixop, items, litems, mkLst, lenop, intop, isiop, tyOf, putop, src, wipeP, b1, l_law_1, e1, e2]
    rw [hr, Out.turn_nx, e3]
theorem loop2 (k : Nat) (S : PV) (v : Option PV) (h : MH) : ∀ (ps : List (Int × Int)) (w : Option PV), (∀ p ∈ ps, Sm 10 p.2) → ∃ w', forL (fun x ρ h => match bindG (.nm 2) x ρ h with
    | some ρ' => runs PG (call PG (k+3)) b2 ρ' h
    | none => .stuck) [] (ps.map pr) [some S, v, w] h = .nx [some S, v, w'] h
  | [], w, _ => ⟨w, by rw [List.map_nil, forL_nil0]⟩
  | p :: ps, w, hp => by
    have e1 := s_is_number (k+1) h p (Sm.up (hp p List.mem_cons_self))
    have e2 := s_law_is (k+1) h p
    have e3 : call PG (k+3) "_law_same" [.bl (decide (IsLow p)), .bl (decide (IsLow p))] [] [] h = .ok (.bl true) h := s_same (k+2) _ h rfl (Nat.zero_le _)
    obtain ⟨w3, e4⟩ := loop2 k S v h ps (some (pr p)) fun y hy => hp y (List.mem_cons_of_mem _ hy)
    refine ⟨w3, ?_⟩
    rw [List.map_cons, forL_cons0]
    have hr : (match bindG (.nm 2) (pr p) [some S, v, w] h with
      | some ρ' => runs PG (call PG (k+3)) b2 ρ' h
      | none => .stuck) = .nx [some S, v, some (pr p)] h := by
      simp [body, q_ev_v, q_ev_non, q_ev_bl, q_ev_int, q_ev_str, q_ev_con, q_ev_tup, q_ev_lst, q_ev_bin, q_ev_neg, q_ev_not, q_ev_cmp, q_ev_chain, q_ev_and, q_ev_or, q_ev_ifx, q_ev_ix, q_ev_sl, q_ev_call, q_ev_blt, q_ev_isi, q_ev_met, q_ev_val, q_evs_nil, q_evs_cons, q_evAnd_cons, q_evAnd_cons2, q_evOr_cons, q_evOr_cons2, q_evIfs_none, q_evIfs_some, q_evo_none, q_evo_some, q_evi_ex, q_run1_ex, q_run1_set, q_run1_put, q_run1_ite, q_run1_whl, q_run1_for, q_run1_ret, q_run1_retN, q_run1_rais, q_run1_try, q_run1_brk, q_run1_cnt, q_run1_pas, q_runs_nil, q_runs_cons, q_runH_nil, q_runH_cons, tst, bltop, bindG, bindGs, cmpop, ofB, truthy, int1, int2, ltop, leop, binop, addop, subop, mulop, divop, modop, powop, ixop, items, litems, mkLst, lenop, intop, isiop, tyOf, putop, src, wipeP, b2, l_law_2, e1, e2, e3]
    rw [hr, Out.turn_nx, e4]
theorem law_plain (ns : List Int) (hl : ns.length ≤ 63) : ∃ h', body PG (call PG 60) f_law [.lst (ns.map .int)] [] = .ok (.bl true) h' := by
  have hm : ∃ m : Nat, m < 64 ∧ ev PG (call PG 60) (.blt .max false (.cons (.int 3) (.cons (.blt .min false (.cons (.blt .len false (.cons (.v 0) .nil)) (.cons (.int 30) .nil))) .nil))) [some (.lst (ns.map .int)), none, none] [] = .ok (.int (m : Int)) [] := by
    by_cases h1 : (30 : Int) < (ns.length : Int)
    · refine ⟨30, by decide, ?_⟩
      simp [body, q_ev_v, q_ev_non, q_ev_bl, q_ev_int, q_ev_str, q_ev_con, q_ev_tup, q_ev_lst, q_ev_bin, q_ev_neg, q_ev_not, q_ev_cmp, q_ev_chain, q_ev_and, q_ev_or, q_ev_ifx, q_ev_ix, q_ev_sl, q_ev_call, q_ev_blt, q_ev_isi, q_ev_met, q_ev_val, q_evs_nil, q_evs_cons, q_evAnd_cons, q_evAnd_cons2, q_evOr_cons, q_evOr_cons2, q_evIfs_none, q_evIfs_some, q_evo_none, q_evo_some, q_evi_ex, q_run1_ex, q_run1_set, q_run1_put, q_run1_ite, q_run1_whl, q_run1_for, q_run1_ret, q_run1_retN, q_run1_rais, q_run1_try, q_run1_brk, q_run1_cnt, q_run1_pas, q_runs_nil, q_runs_cons, q_runH_nil, q_runH_cons, tst, bltop, bindG, bindGs, cmpop, ofB, truthy, int1, int2, ltop, leop, binop, addop, subop, mulop, divop, modop, powop, ixop, items, litems, mkLst, lenop, intop, isiop, tyOf, putop, src, wipeP, h1]
    · by_cases h2 : (ns.length : Int) > 3
      · refine ⟨ns.length, by omega, ?_⟩
        have h2' : 3 < ns.length := by omega
        have h1' : ¬ (30 < ns.length) := by omega
        simp [body, q_ev_v, q_ev_non, q_ev_bl, q_ev_int, q_ev_str, q_ev_con, q_ev_tup, q_ev_lst, q_ev_bin, q_ev_neg, q_ev_not, q_ev_cmp, q_ev_chain, q_ev_and, q_ev_or, q_ev_ifx, q_ev_ix, q_ev_sl, q_ev_call, q_ev_blt, q_ev_isi, q_ev_met, q_ev_val, q_evs_nil, q_evs_cons, q_evAnd_cons, q_evAnd_cons2, q_evOr_cons, q_evOr_cons2, q_evIfs_none, q_evIfs_some, q_evo_none, q_evo_some, q_evi_ex, q_run1_ex, q_run1_set, q_run1_put, q_run1_ite, q_run1_whl, q_run1_for, q_run1_ret, q_run1_retN, q_run1_rais, q_run1_try, q_run1_brk, q_run1_cnt, q_run1_pas, q_runs_nil, q_runs_cons, q_runH_nil, q_runH_cons, tst, bltop, bindG, bindGs, cmpop, ofB, truthy, int1, int2, ltop, leop, binop, addop, subop, mulop, divop, modop, powop, ixop, items, litems, mkLst, lenop, intop, isiop, tyOf, putop, src, wipeP, h1, h2, h1', h2']
      · refine ⟨3, by decide, ?_⟩
        have h2' : ¬ 3 < ns.length := by omega
        have h1' : ¬ (30 < ns.length) := by omega
        simp [body, q_ev_v, q_ev_non, q_ev_bl, q_ev_int, q_ev_str, q_ev_con, q_ev_tup, q_ev_lst, q_ev_bin, q_ev_neg, q_ev_not, q_ev_cmp, q_ev_chain, q_ev_and, q_ev_or, q_ev_ifx, q_ev_ix, q_ev_sl, q_ev_call, q_ev_blt, q_ev_isi, q_ev_met, q_ev_val, q_evs_nil, q_evs_cons, q_evAnd_cons, q_evAnd_cons2, q_evOr_cons, q_evOr_cons2, q_evIfs_none, q_evIfs_some, q_evo_none, q_evo_some, q_evi_ex, q_run1_ex, q_run1_set, q_run1_put, q_run1_ite, q_run1_whl, q_run1_for, q_run1_ret, q_run1_retN, q_run1_rais, q_run1_try, q_run1_brk, q_run1_cnt, q_run1_pas, q_runs_nil, q_runs_cons, q_runH_nil, q_runH_cons, tst, bltop, bindG, bindGs, cmpop, ofB, truthy, int1, int2, ltop, leop, binop, addop, subop, mulop, divop, modop, powop, ixop, items, litems, mkLst, lenop, intop, isiop, tyOf, putop, src, wipeP, h1, h2, h1', h2']
  obtain ⟨m, m1, m2⟩ := hm
  have er := rng1 m2 (by omega)
  rw [Int.toNat_natCast] at er
  obtain ⟨h1, v1, e1⟩ := loop1 53 ns (List.range m) [] none fun x hx => by have := List.mem_range.mp hx; omega
  obtain ⟨w2, e2⟩ := loop2 57 (.lst (ns.map .int)) v1 h1 [(0, 1), (0, 2), (0, -1), (0, 0), (1, 0), (-1, 1), (1, -1), (2, 4), (3, 9), (4, 9)] none (by
    intro p hp
    simp only [List.mem_cons, List.not_mem_nil, or_false] at hp
    rcases hp with rfl | rfl | rfl | rfl | rfl | rfl | rfl | rfl | rfl | rfl <;> exact small_nat 10 (by decide) 10)
  have el : ev PG (call PG 60) lit2 [some (.lst (ns.map .int)), v1, none] h1 = .ok (.lst ([((0 : Int), (1 : Int)), (0, 2), (0, -1), (0, 0), (1, 0), (-1, 1), (1, -1), (2, 4), (3, 9), (4, 9)].map pr)) h1 := by
    simp [body, q_ev_v, q_ev_non, q_ev_bl, q_ev_int, q_ev_str, q_ev_con, q_ev_tup, q_ev_lst, q_ev_bin, q_ev_neg, q_ev_not, q_ev_cmp, q_ev_chain, q_ev_and, q_ev_or, q_ev_ifx, q_ev_ix, q_ev_sl, q_ev_call, q_ev_blt, q_ev_isi, q_ev_met, q_ev_val, q_evs_nil, q_evs_cons, q_evAnd_cons, q_evAnd_cons2, q_evOr_cons, q_evOr_cons2, q_evIfs_none, q_evIfs_some, q_evo_none, q_evo_some, q_evi_ex, q_run1_ex, q_run1_set, q_run1_put, q_run1_ite, q_run1_whl, q_run1_for, q_run1_ret, q_run1_retN, q_run1_rais, q_run1_try, q_run1_brk, q_run1_cnt, q_run1_pas, q_runs_nil, q_runs_cons, q_runH_nil, q_runH_cons, tst, bltop, bindG, bindGs, cmpop, ofB, truthy, int1, int2, ltop, leop, binop, addop, subop, mulop, divop, modop, powop, ixop, items, litems, mkLst, lenop, intop, isiop, tyOf, putop, src, wipeP, lit2, l_law_2, pr]
  have r1 : run1 PG (call PG 60) l_law_1 [some (.lst (ns.map .int)), none, none] [] = .nx [some (.lst (ns.map .int)), v1, none] h1 := by
    have q : l_law_1 = .for (.nm 1) (.range1 (.blt .max false (.cons (.int 3) (.cons (.blt .min false (.cons (.blt .len false (.cons (.v 0) .nil)) (.cons (.int 30) .nil))) .nil)))) b1 := rfl
    rw [q, q_run1_for, er, Res.out_ok]
    exact e1
  have r2 : run1 PG (call PG 60) l_law_2 [some (.lst (ns.map .int)), v1, none] h1 = .nx [some (.lst (ns.map .int)), v1, w2] h1 := by
    have q : l_law_2 = .for (.nm 2) (.ex lit2) b2 := rfl
    rw [q, q_run1_for, evi_ex, el, Res.bind_ok]
    exact e2
  refine ⟨(leave [] (.bl true) h1).2, ?_⟩
  have hbd : body PG (call PG 60) f_law [.lst (ns.map .int)] [] = (runs PG (call PG 60) f_law.body [some (.lst (ns.map .int)), none, none] []).res false [] := rfl
  have hb : f_law.body = .cons l_law_1 (.cons l_law_2 (.cons (.ret (.bl true)) .nil)) := rfl
  rw [hbd, hb, q_runs_cons, r1, Out.seq_nx, q_runs_cons, r2, Out.seq_nx]
  simp [body, q_ev_v, q_ev_non, q_ev_bl, q_ev_int, q_ev_str, q_ev_con, q_ev_tup, q_ev_lst, q_ev_bin, q_ev_neg, q_ev_not, q_ev_cmp, q_ev_chain, q_ev_and, q_ev_or, q_ev_ifx, q_ev_ix, q_ev_sl, q_ev_call, q_ev_blt, q_ev_isi, q_ev_met, q_ev_val, q_evs_nil, q_evs_cons, q_evAnd_cons, q_evAnd_cons2, q_evOr_cons, q_evOr_cons2, q_evIfs_none, q_evIfs_some, q_evo_none, q_evo_some, q_evi_ex, q_run1_ex, q_run1_set, q_run1_put, q_run1_ite, q_run1_whl, q_run1_for, q_run1_ret, q_run1_retN, q_run1_rais, q_run1_try, q_run1_brk, q_run1_cnt, q_run1_pas, q_runs_nil, q_runs_cons, q_runH_nil, q_runH_cons, tst, bltop, bindG, bindGs, cmpop, ofB, truthy, int1, int2, ltop, leop, binop, addop, subop, mulop, divop, modop, powop, ixop, items, litems, mkLst, lenop, intop, isiop, tyOf, putop, src, wipeP]
  show Res.ok (leave [] (.bl true) h1).1 _ = _
  have : (leave [] (.bl true) h1).1 = .bl true := by
    unfold leave
    split
    · rfl
    · rfl
  rw [this]
end Mx.K01


set_option Elab.async false
set_option linter.all false
set_option maxRecDepth 100000
set_option maxHeartbeats 0
open PySem PySem.W PySem.Calls PyProof.Rows
theorem PySem.Challenge.cw_rankedwishes_k01_whole_numbers_holds : PySem.Challenge.rw_rankedwishes_k01_whole_numbers.Holds := by
  w_on; o_law
  refine HandSHeadRun.head_imp (r := OpenLaw.row PySem.Challenge.rw_rankedwishes_k01_whole_numbers) (q := view (OpenLaw.row PySem.Challenge.rw_rankedwishes_k01_whole_numbers).prog [0, 46]) (H := Mx.K01.hk) (ob := Mx.K01.ob) (M := 20000) (loose := Mx.K01.loose) (d := HandSHeadRun.topDef (OpenLaw.row PySem.Challenge.rw_rankedwishes_k01_whole_numbers).prog 46) (kwd := []) Mx.K01.ob_eq
    Mx.K01.run (by kernel_rfl) (by kernel_rfl) (by kernel_rfl) (by rfl) (by first | assumption | decide +kernel) (by decide +kernel) ⟨rfl, rfl, rfl, rfl, rfl, by decide +kernel⟩ ?hw ?hc
  case hw => w_witness2
  case hc =>
    exact Mx.law_end (l := PySem.Challenge.rw_rankedwishes_k01_whole_numbers) Mx.K01.txt (e := Mx.K01.e_law) (by simp [Mx.K01.ents]) rfl (by kernel_rfl) (by kernel_rfl) (by decide +kernel) rfl 60 ⟨rfl, by decide, by decide⟩ fun ns hl => Mx.K01.law_plain ns hl
