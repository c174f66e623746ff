import PyProof.Rows.All
import Wide.All
import OpenK.AllK
import Wide.FinOn
import HandS.ForMost
import HandS.Style
import HandS.Wide
import HandS.Strs
import HandS.SortInts
import HandS.IsInst
import HandS.Gcd
import HandS.Conv
import HandS.RaiseMore
import PySem.Challenge.RW_langwork_k03_whole_long_lyndon_factors
set_option Elab.async false
set_option linter.all false
set_option maxRecDepth 100000
set_option maxHeartbeats 4000000
/-! DL: plain data over the hand layer. -/
namespace DL
open PySem L2

/-! ### data -/
inductive Dt where
  | non
  | bl (b : Bool)
  | int (i : Int)
  | str (x : List Nat)
  | list (xs : List Dt)
  | tup (xs : List Dt)
  | deck
  | raw (a : Addr)

def S (x : List Nat) : Str := ⟨x.toArray⟩
theorem S_len (x : List Nat) : (S x).length = x.length := by
  show x.toArray.size = x.length
  simp
theorem S_cps (x : List Nat) : (S x).cps.toList = x := rfl
theorem S_of (z : Str) : S z.cps.toList = z := rfl
theorem S_inj {x y : List Nat} (h : S x = S y) : x = y := by
  have := congrArg (fun z : Str => z.cps.toList) h
  exact this

/-- the deck of numbers: a list of ints that are not negative; which ones is left open -/
def DeckAt (a : Addr) (h : Heap) : Prop := ∃ (ns : List Int) (its : List Value) (n : Nat), ns.length ≤ 100000 ∧ (∀ k ∈ ns, 0 ≤ k) ∧ Vals (ns.map V.int) its ∧ h.get? a = some { cls := .type "list", data := .seq its.toArray n }
def deckO (a : Addr) : HO := .ext (DeckAt a)

mutual
def Rp (H : Hp) : Dt → V → Prop
  | .non, v => v = .non
  | .bl b, v => v = .bl b
  | .int i, v => v = .int i
  | .str x, v => v = .str (S x)
  | .list xs, v => ∃ a vs, v = .ref a ∧ H a = some (.lst vs) ∧ RpAll H xs vs
  | .tup xs, v => ∃ a vs, v = .ref a ∧ H a = some (.tup vs) ∧ RpAll H xs vs
  | .deck, v => ∃ a, v = .ref a ∧ H a = some (deckO a)
  | .raw a, v => v = .ref a
def RpAll (H : Hp) : List Dt → List V → Prop
  | [], vs => vs = []
  | x :: xs, vs => ∃ v r, vs = v :: r ∧ Rp H x v ∧ RpAll H xs r
end

def Ex (H H' : Hp) : Prop := ∀ a o, H a = some o → H' a = some o
theorem Ex.refl (H : Hp) : Ex H H := fun _ _ h => h
theorem Ex.trans {H H1 H2 : Hp} (a : Ex H H1) (b : Ex H1 H2) : Ex H H2 := fun x o h => b x o (a x o h)
theorem Ex.new {H : Hp} {p : Addr} {o : HO} (h : H p = none) : Ex H (upd H p o) := fun a u e => by
  rw [upd_ne (ne_of_none e h)]
  exact e
theorem Ex.back {H H' : Hp} {p : Addr} (e : Ex H H') (h : H' p = none) : H p = none := by
  cases h1 : H p with
  | none => rfl
  | some o =>
    rw [e p o h1] at h
    cases h
theorem Ex.put {H H' : Hp} {p : Addr} {o : HO} (e : Ex H H') (h : H p = none) : Ex H (upd H' p o) := fun a u ha => by
  rw [upd_ne (ne_of_none ha h)]
  exact e a u ha

/-- the heaps grow: the frozen part by what is new -/
structure Gr (F H F' H' : Hp) : Prop where
  f : Ex F F'
  h : Ex H H'
  n : ∀ a o, F' a = some o → F a = none → H a = none
theorem Gr.refl (F H : Hp) : Gr F H F H := ⟨Ex.refl F, Ex.refl H, fun a o h n => by rw [n] at h; cases h⟩
theorem Gr.trans {F H F1 H1 F2 H2 : Hp} (a : Gr F H F1 H1) (b : Gr F1 H1 F2 H2) : Gr F H F2 H2 := ⟨a.f.trans b.f, a.h.trans b.h, fun x o h n => by
  cases h1 : F1 x with
  | some u => exact a.n x u h1 n
  | none => exact a.h.back (b.n x o h h1)⟩
theorem Gr.hOnly {F H H' : Hp} (h : Ex H H') : Gr F H F H' := ⟨Ex.refl F, h, fun a o h n => by rw [n] at h; cases h⟩
theorem Gr.alloc {F H : Hp} {p : Addr} {o : HO} (fh : Ex F H) (hp : H p = none) : Gr F H (upd F p o) (upd H p o) := ⟨Ex.new (fh.back hp), Ex.new hp, fun a u h n => by
  by_cases e : a = p
  · subst e
    exact hp
  · rw [upd_ne e, n] at h
    cases h⟩
theorem Gr.allocH {F H : Hp} {p : Addr} {o : HO} (hp : H p = none) : Gr F H F (upd H p o) := Gr.hOnly (Ex.new hp)

mutual
theorem Rp.mono {H H' : Hp} (e : Ex H H') : ∀ (d : Dt) {v : V}, Rp H d v → Rp H' d v
  | .non, _, h => h
  | .bl _, _, h => h
  | .int _, _, h => h
  | .str _, _, h => h
  | .list xs, _, h => by
    unfold Rp at h ⊢
    obtain ⟨a, vs, e1, e2, e3⟩ := h
    exact ⟨a, vs, e1, e _ _ e2, RpAll.mono e xs e3⟩
  | .tup xs, _, h => by
    unfold Rp at h ⊢
    obtain ⟨a, vs, e1, e2, e3⟩ := h
    exact ⟨a, vs, e1, e _ _ e2, RpAll.mono e xs e3⟩
  | .deck, _, h => by
    unfold Rp at h ⊢
    obtain ⟨a, e1, e2⟩ := h
    exact ⟨a, e1, e _ _ e2⟩
  | .raw _, _, h => h
theorem RpAll.mono {H H' : Hp} (e : Ex H H') : ∀ (ds : List Dt) {vs : List V}, RpAll H ds vs → RpAll H' ds vs
  | [], _, h => h
  | x :: xs, _, h => by
    unfold RpAll at h ⊢
    obtain ⟨v, r, e1, e2, e3⟩ := h
    exact ⟨v, r, e1, Rp.mono e x e2, RpAll.mono e xs e3⟩
end

section
variable {H : Hp}
theorem Rp.int_iff {i : Int} {v : V} : Rp H (.int i) v ↔ v = .int i := by unfold Rp; exact Iff.rfl
theorem Rp.bl_iff {b : Bool} {v : V} : Rp H (.bl b) v ↔ v = .bl b := by unfold Rp; exact Iff.rfl
theorem Rp.str_iff {x : List Nat} {v : V} : Rp H (.str x) v ↔ v = .str (S x) := by unfold Rp; exact Iff.rfl
theorem Rp.non_iff {v : V} : Rp H .non v ↔ v = .non := by unfold Rp; exact Iff.rfl
theorem Rp.list_iff {xs : List Dt} {v : V} : Rp H (.list xs) v ↔ ∃ a vs, v = .ref a ∧ H a = some (.lst vs) ∧ RpAll H xs vs := by rw [Rp.eq_def]
theorem Rp.tup_iff {xs : List Dt} {v : V} : Rp H (.tup xs) v ↔ ∃ a vs, v = .ref a ∧ H a = some (.tup vs) ∧ RpAll H xs vs := by rw [Rp.eq_def]
theorem Rp.deck_iff {v : V} : Rp H .deck v ↔ ∃ a, v = .ref a ∧ H a = some (deckO a) := by rw [Rp.eq_def]
theorem Rp.raw_iff {a : Addr} {v : V} : Rp H (.raw a) v ↔ v = .ref a := by unfold Rp; exact Iff.rfl
theorem RpAll.nil_iff {vs : List V} : RpAll H [] vs ↔ vs = [] := by unfold RpAll; exact Iff.rfl
theorem RpAll.cons_iff {x : Dt} {xs : List Dt} {vs : List V} : RpAll H (x :: xs) vs ↔ ∃ v r, vs = v :: r ∧ Rp H x v ∧ RpAll H xs r := by rw [RpAll.eq_def]
theorem RpAll.nil : RpAll H [] [] := RpAll.nil_iff.mpr rfl
theorem RpAll.cons {x : Dt} {xs : List Dt} {v : V} {vs : List V} (h : Rp H x v) (t : RpAll H xs vs) : RpAll H (x :: xs) (v :: vs) := RpAll.cons_iff.mpr ⟨v, vs, rfl, h, t⟩
theorem RpAll.length : ∀ {xs : List Dt} {vs : List V}, RpAll H xs vs → xs.length = vs.length
  | [], _, h => by rw [RpAll.nil_iff.mp h]; rfl
  | x :: xs, _, h => by
    obtain ⟨v, r, rfl, _, t⟩ := RpAll.cons_iff.mp h
    rw [List.length_cons, List.length_cons, RpAll.length t]
theorem RpAll.get : ∀ {xs : List Dt} {vs : List V} {i : Nat} {x : Dt}, RpAll H xs vs → xs[i]? = some x → ∃ v, vs[i]? = some v ∧ Rp H x v
  | [], _, i, x, _, e => by simp at e
  | y :: xs, _, 0, x, h, e => by
    obtain ⟨v, r, rfl, h1, t⟩ := RpAll.cons_iff.mp h
    simp at e
    subst e
    exact ⟨v, rfl, h1⟩
  | y :: xs, _, i + 1, x, h, e => by
    obtain ⟨v, r, rfl, h1, t⟩ := RpAll.cons_iff.mp h
    obtain ⟨w, h2, h3⟩ := RpAll.get (i := i) (x := x) t (by simpa using e)
    exact ⟨w, by simpa using h2, h3⟩
theorem RpAll.get' {xs : List Dt} {vs : List V} {i : Nat} {v : V} (h : RpAll H xs vs) (e : vs[i]? = some v) : ∃ x, xs[i]? = some x ∧ Rp H x v := by
  have hl := h.length
  have hi : i < xs.length := by rw [hl]; exact (List.getElem?_eq_some_iff.mp e).1
  obtain ⟨w, h1, h2⟩ := h.get (List.getElem?_eq_getElem hi)
  rw [e] at h1
  cases h1
  exact ⟨_, List.getElem?_eq_getElem hi, h2⟩
theorem RpAll.append : ∀ {xs ys : List Dt} {vs ws : List V}, RpAll H xs vs → RpAll H ys ws → RpAll H (xs ++ ys) (vs ++ ws)
  | [], _, _, _, h, t => by rw [RpAll.nil_iff.mp h]; exact t
  | x :: xs, _, _, _, h, t => by
    obtain ⟨v, r, rfl, h1, h2⟩ := RpAll.cons_iff.mp h
    exact RpAll.cons h1 (RpAll.append h2 t)
theorem RpAll.set {d : Dt} {v : V} (h : Rp H d v) : ∀ {xs : List Dt} {vs : List V} (i : Nat), RpAll H xs vs → RpAll H (xs.set i d) (vs.set i v)
  | [], _, _, h => by rw [RpAll.nil_iff.mp h]; exact RpAll.nil
  | x :: xs, _, 0, h' => by
    obtain ⟨w, r, rfl, h1, h2⟩ := RpAll.cons_iff.mp h'
    exact RpAll.cons h h2
  | x :: xs, _, i + 1, h' => by
    obtain ⟨w, r, rfl, h1, h2⟩ := RpAll.cons_iff.mp h'
    exact RpAll.cons h1 (RpAll.set h i h2)
theorem RpAll.take : ∀ {xs : List Dt} {vs : List V} (n : Nat), RpAll H xs vs → RpAll H (xs.take n) (vs.take n)
  | _, _, 0, _ => RpAll.nil
  | [], _, n + 1, h => by rw [RpAll.nil_iff.mp h]; exact RpAll.nil
  | x :: xs, _, n + 1, h => by
    obtain ⟨w, r, rfl, h1, h2⟩ := RpAll.cons_iff.mp h
    exact RpAll.cons h1 (RpAll.take n h2)
theorem RpAll.drop : ∀ {xs : List Dt} {vs : List V} (n : Nat), RpAll H xs vs → RpAll H (xs.drop n) (vs.drop n)
  | _, _, 0, h => h
  | [], _, n + 1, h => by rw [RpAll.nil_iff.mp h]; exact RpAll.nil
  | x :: xs, _, n + 1, h => by
    obtain ⟨w, r, rfl, h1, h2⟩ := RpAll.cons_iff.mp h
    exact RpAll.drop n h2
theorem RpAll.reverse : ∀ {xs : List Dt} {vs : List V}, RpAll H xs vs → RpAll H xs.reverse vs.reverse
  | [], _, h => by rw [RpAll.nil_iff.mp h]; exact RpAll.nil
  | x :: xs, _, h => by
    obtain ⟨w, r, rfl, h1, h2⟩ := RpAll.cons_iff.mp h
    rw [List.reverse_cons, List.reverse_cons]
    exact (RpAll.reverse h2).append (RpAll.cons h1 RpAll.nil)
theorem RpAll.rep {xs : List Dt} {vs : List V} (h : RpAll H xs vs) : ∀ n : Nat, RpAll H (List.replicate n xs).flatten (List.replicate n vs).flatten
  | 0 => RpAll.nil
  | n + 1 => by
    rw [List.replicate_succ, List.replicate_succ, List.flatten_cons, List.flatten_cons]
    exact h.append (RpAll.rep h n)
theorem RpAll.ints : ∀ ns : List Int, RpAll H (ns.map Dt.int) (ns.map V.int)
  | [] => RpAll.nil
  | n :: ns => RpAll.cons (Rp.int_iff.mpr rfl) (RpAll.ints ns)
theorem RpAll.ints_iff : ∀ {ns : List Int} {vs : List V}, RpAll H (ns.map Dt.int) vs ↔ vs = ns.map V.int
  | [], vs => RpAll.nil_iff
  | n :: ns, vs => by
    constructor
    · intro h
      obtain ⟨w, r, rfl, h1, h2⟩ := RpAll.cons_iff.mp h
      rw [Rp.int_iff.mp h1, RpAll.ints_iff.mp h2]; rfl
    · rintro rfl
      exact RpAll.ints (n :: ns)
theorem RpAll.strs_iff : ∀ {ns : List (List Nat)} {vs : List V}, RpAll H (ns.map Dt.str) vs ↔ vs = (ns.map S).map V.str
  | [], vs => RpAll.nil_iff
  | n :: ns, vs => by
    constructor
    · intro h
      obtain ⟨w, r, rfl, h1, h2⟩ := RpAll.cons_iff.mp h
      rw [Rp.str_iff.mp h1, RpAll.strs_iff.mp h2]; rfl
    · rintro rfl
      exact RpAll.cons (Rp.str_iff.mpr rfl) (RpAll.strs_iff.mpr rfl)
theorem RpAll.bls_iff : ∀ {ns : List Bool} {vs : List V}, RpAll H (ns.map Dt.bl) vs ↔ vs = ns.map V.bl
  | [], vs => RpAll.nil_iff
  | n :: ns, vs => by
    constructor
    · intro h
      obtain ⟨w, r, rfl, h1, h2⟩ := RpAll.cons_iff.mp h
      rw [Rp.bl_iff.mp h1, RpAll.bls_iff.mp h2]; rfl
    · rintro rfl
      exact RpAll.cons (Rp.bl_iff.mpr rfl) (RpAll.bls_iff.mpr rfl)
end

/-! ### slots -/
inductive Sl where
  | no
  | dat (d : Dt)
  | own (xs : List Dt)

/-- the base of a def's run: the heap at the entry, the part of it that the arguments lean on, further facts -/
structure Bs where
  H0 : Hp
  G0 : Hp
  gh : List Hp := []

def SlOk (B : Bs) (F H : Hp) : Sl → Option V → Prop
  | .no, _ => True
  | .dat d, o => ∃ v, o = some v ∧ Rp F d v
  | .own xs, o => ∃ p vs, o = some (.ref p) ∧ B.H0 p = none ∧ F p = none ∧ H p = some (.lst vs) ∧ RpAll F xs vs

structure EnvOk (B : Bs) (F H : Hp) (σ : L2.St) (env : List Sl) : Prop where
  len : σ.length = env.length
  g : Ex B.G0 F
  gf : ∀ a o, F a = some o → B.G0 a = none → B.H0 a = none
  fh : Ex F H
  hh : Ex B.H0 H
  gho : ∀ G ∈ B.gh, Ex G F
  sl : ∀ (i : Nat) (s : Sl) (o : Option V), env[i]? = some s → σ[i]? = some o → SlOk B F H s o
  sep : ∀ (i j : Nat) (xs ys : List Dt) (p : Addr), env[i]? = some (.own xs) → env[j]? = some (.own ys) → σ[i]? = some (some (.ref p)) → σ[j]? = some (some (.ref p)) → i = j

def sel (m : Bool) (F H : Hp) : Hp := if m then F else H
theorem Rp.sel {m : Bool} {F H : Hp} {d : Dt} {v : V} (e : Ex F H) (h : Rp F d v) : Rp (sel m F H) d v := by
  cases m with
  | true => exact h
  | false => exact Rp.mono e d h
theorem Rp.unsel {m : Bool} {F H : Hp} {d : Dt} {v : V} (e : Ex F H) (h : Rp (DL.sel m F H) d v) : Rp H d v := by
  cases m with
  | true => exact Rp.mono e d h
  | false => exact h

section
variable {B : Bs} {F H F' H' : Hp} {σ : L2.St} {env : List Sl}
theorem EnvOk.get (E : EnvOk B F H σ env) {i : Nat} {s : Sl} (h : env[i]? = some s) : ∃ o, σ[i]? = some o ∧ SlOk B F H s o := by
  have hi : i < σ.length := by rw [E.len]; exact (List.getElem?_eq_some_iff.mp h).1
  exact ⟨_, List.getElem?_eq_getElem hi, E.sl _ _ _ h (List.getElem?_eq_getElem hi)⟩
theorem EnvOk.dat (E : EnvOk B F H σ env) {i : Nat} {d : Dt} (h : env[i]? = some (.dat d)) : ∃ v, σ[i]? = some (some v) ∧ Rp F d v := by
  obtain ⟨o, h1, v, rfl, h2⟩ := E.get h
  exact ⟨v, h1, h2⟩
theorem EnvOk.own (E : EnvOk B F H σ env) {i : Nat} {xs : List Dt} (h : env[i]? = some (.own xs)) :
    ∃ p vs, σ[i]? = some (some (.ref p)) ∧ B.H0 p = none ∧ F p = none ∧ H p = some (.lst vs) ∧ RpAll F xs vs := by
  obtain ⟨o, h1, p, vs, rfl, h2⟩ := E.get h
  exact ⟨p, vs, h1, h2⟩
theorem SlOk.ext {s : Sl} {o : Option V} (h : SlOk B F H s o) (e1 : Ex F F') (e2 : Ex H H') (hf : ∀ p vs, H p = some (.lst vs) → F p = none → F' p = none) : SlOk B F' H' s o := by
  cases s with
  | no => trivial
  | dat d =>
    obtain ⟨v, h1, h2⟩ := h
    exact ⟨v, h1, Rp.mono e1 d h2⟩
  | own xs =>
    obtain ⟨p, vs, h1, h2, h3, h4, h5⟩ := h
    exact ⟨p, vs, h1, h2, hf p vs h4 h3, e2 _ _ h4, RpAll.mono e1 xs h5⟩
/-- the heaps grow: F by what is new, H by anything -/
theorem EnvOk.ext (E : EnvOk B F H σ env) (e1 : Ex F F') (e2 : Ex H H') (e3 : Ex F' H') (hf : ∀ a o, F' a = some o → F a = none → H a = none) : EnvOk B F' H' σ env where
  len := E.len
  g := E.g.trans e1
  gf := fun a o h h0 => by
    cases h1 : F a with
    | some u => exact E.gf a u h1 h0
    | none => exact E.hh.back (hf a o h h1)
  fh := e3
  hh := E.hh.trans e2
  gho := fun p hp => (E.gho p hp).trans e1
  sl := fun i s o h1 h2 => (E.sl i s o h1 h2).ext e1 e2 fun p vs hp hn => by
    cases h : F' p with
    | none => rfl
    | some u =>
      rw [hf p u h hn] at hp
      cases hp
  sep := E.sep
/-- a new object -/
theorem EnvOk.gr (E : EnvOk B F H σ env) (g : Gr F H F' H') (e3 : Ex F' H') : EnvOk B F' H' σ env := E.ext g.f g.h e3 g.n
/-- a new object -/
theorem EnvOk.alloc (E : EnvOk B F H σ env) {p : Addr} (o : HO) (hp : H p = none) : EnvOk B (upd F p o) (upd H p o) σ env :=
  E.ext (Ex.new (E.fh.back hp)) (Ex.new hp) (fun a u h => by
    by_cases e : a = p
    · subst e
      rw [upd_same] at h ⊢
      exact h
    · rw [upd_ne e] at h ⊢
      exact E.fh a u h) fun a u h hn => by
    by_cases e : a = p
    · subst e
      exact hp
    · rw [upd_ne e, hn] at h
      cases h
/-- a new object that is not frozen -/
theorem EnvOk.allocH (E : EnvOk B F H σ env) {p : Addr} (o : HO) (hp : H p = none) : EnvOk B F (upd H p o) σ env :=
  E.ext (Ex.refl F) (Ex.new hp) (E.fh.put (E.fh.back hp)) fun a u h hn => by
    rw [hn] at h
    cases h
/-- a loose list is frozen -/
theorem EnvOk.freezeP (E : EnvOk B F H σ env) {p : Addr} {o : HO} (h0 : B.H0 p = none) (hf : F p = none) (hp : H p = some o) (ho : ∀ (i : Nat) xs, env[i]? = some (.own xs) → σ[i]? ≠ some (some (.ref p))) : EnvOk B (upd F p o) H σ env where
  len := E.len
  g := E.g.trans (Ex.new hf)
  gf := fun a u h hn => by
    by_cases e : a = p
    · subst e
      exact h0
    · rw [upd_ne e] at h
      exact E.gf a u h hn
  fh := fun a u h => by
    by_cases e : a = p
    · subst e
      rw [upd_same] at h
      rw [hp, h]
    · rw [upd_ne e] at h
      exact E.fh a u h
  hh := E.hh
  gho := fun q hq => (E.gho q hq).trans (Ex.new hf)
  sl := fun i s u h1 h2 => by
    have q := E.sl i s u h1 h2
    cases s with
    | no => trivial
    | dat d =>
      obtain ⟨v, e1, e2⟩ := q
      exact ⟨v, e1, Rp.mono (Ex.new hf) d e2⟩
    | own xs =>
      obtain ⟨q, vs, e1, e2, e3, e4, e5⟩ := q
      have hne : q ≠ p := fun z => by
        subst z
        rw [e1] at h2
        exact ho i xs h1 h2
      exact ⟨q, vs, e1, e2, by rw [upd_ne hne]; exact e3, e4, RpAll.mono (Ex.new hf) xs e5⟩
  sep := E.sep
theorem EnvOk.setDat (E : EnvOk B F H σ env) {i : Nat} {d : Dt} {v : V} (h : Rp F d v) : EnvOk B F H (σ.set i (some v)) (env.set i (.dat d)) where
  len := by rw [List.length_set, List.length_set, E.len]
  g := E.g
  gf := E.gf
  fh := E.fh
  hh := E.hh
  gho := E.gho
  sl := fun j s o h1 h2 => by
    by_cases e : i = j
    · subst e
      have hl : i < env.length := by simpa using (List.getElem?_eq_some_iff.mp h1).1
      rw [List.getElem?_set_self hl] at h1
      rw [List.getElem?_set_self (by rw [E.len]; exact hl)] at h2
      cases h1
      cases h2
      exact ⟨v, rfl, h⟩
    · rw [List.getElem?_set_ne e] at h1 h2
      exact E.sl j s o h1 h2
  sep := fun a b xs ys p h1 h2 h3 h4 => by
    have ha : i ≠ a := fun e => by
      subst e
      have hl : i < env.length := by simpa using (List.getElem?_eq_some_iff.mp h1).1
      rw [List.getElem?_set_self hl] at h1
      cases h1
    have hb : i ≠ b := fun e => by
      subst e
      have hl : i < env.length := by simpa using (List.getElem?_eq_some_iff.mp h2).1
      rw [List.getElem?_set_self hl] at h2
      cases h2
    rw [List.getElem?_set_ne ha] at h1 h3
    rw [List.getElem?_set_ne hb] at h2 h4
    exact E.sep a b xs ys p h1 h2 h3 h4
theorem EnvOk.setNo (E : EnvOk B F H σ env) {i : Nat} {o : Option V} : EnvOk B F H (σ.set i o) (env.set i .no) where
  len := by rw [List.length_set, List.length_set, E.len]
  g := E.g
  gf := E.gf
  fh := E.fh
  hh := E.hh
  gho := E.gho
  sl := fun j s o' h1 h2 => by
    by_cases e : i = j
    · subst e
      have hl : i < env.length := by simpa using (List.getElem?_eq_some_iff.mp h1).1
      rw [List.getElem?_set_self hl] at h1
      cases h1
      trivial
    · rw [List.getElem?_set_ne e] at h1 h2
      exact E.sl j s o' h1 h2
  sep := fun a b xs ys p h1 h2 h3 h4 => by
    have ha : i ≠ a := fun e => by
      subst e
      have hl : i < env.length := by simpa using (List.getElem?_eq_some_iff.mp h1).1
      rw [List.getElem?_set_self hl] at h1
      cases h1
    have hb : i ≠ b := fun e => by
      subst e
      have hl : i < env.length := by simpa using (List.getElem?_eq_some_iff.mp h2).1
      rw [List.getElem?_set_self hl] at h2
      cases h2
    rw [List.getElem?_set_ne ha] at h1 h3
    rw [List.getElem?_set_ne hb] at h2 h4
    exact E.sep a b xs ys p h1 h2 h3 h4
/-- forget a slot -/
theorem EnvOk.drop (E : EnvOk B F H σ env) (i : Nat) : EnvOk B F H σ (env.set i .no) := by
  by_cases hi : i < σ.length
  · have := E.setNo (i := i) (o := σ[i])
    rwa [List.set_getElem_self] at this
  · rw [List.set_eq_of_length_le (by rw [← E.len]; omega)]
    exact E
/-- an own list comes to a slot -/
theorem EnvOk.setOwn (E : EnvOk B F H σ env) {i : Nat} {xs : List Dt} {p : Addr} {vs : List V} (h0 : B.H0 p = none) (hf : F p = none) (hp : H p = some (.lst vs)) (hr : RpAll F xs vs)
    (ho : ∀ (j : Nat) ys, j ≠ i → env[j]? = some (.own ys) → σ[j]? ≠ some (some (.ref p))) : EnvOk B F H (σ.set i (some (.ref p))) (env.set i (.own xs)) where
  len := by rw [List.length_set, List.length_set, E.len]
  g := E.g
  gf := E.gf
  fh := E.fh
  hh := E.hh
  gho := E.gho
  sl := fun j s o h1 h2 => by
    by_cases e : i = j
    · subst e
      have hl : i < env.length := by simpa using (List.getElem?_eq_some_iff.mp h1).1
      rw [List.getElem?_set_self hl] at h1
      rw [List.getElem?_set_self (by rw [E.len]; exact hl)] at h2
      cases h1
      cases h2
      exact ⟨p, vs, rfl, h0, hf, hp, hr⟩
    · rw [List.getElem?_set_ne e] at h1 h2
      exact E.sl j s o h1 h2
  sep := fun a b zs ys q h1 h2 h3 h4 => by
    by_cases ha : i = a
    · by_cases hb : i = b
      · exact ha.symm.trans hb
      · subst ha
        have hl : i < σ.length := by simpa using (List.getElem?_eq_some_iff.mp h3).1
        rw [List.getElem?_set_self hl] at h3
        rw [List.getElem?_set_ne hb] at h2 h4
        cases h3
        exact absurd h4 (ho b ys (Ne.symm hb) h2)
    · rw [List.getElem?_set_ne ha] at h1 h3
      by_cases hb : i = b
      · subst hb
        have hl : i < σ.length := by simpa using (List.getElem?_eq_some_iff.mp h4).1
        rw [List.getElem?_set_self hl] at h4
        cases h4
        exact absurd h3 (ho a zs (Ne.symm ha) h1)
      · rw [List.getElem?_set_ne hb] at h2 h4
        exact E.sep a b zs ys q h1 h2 h3 h4
/-- the own list at slot i is changed -/
theorem EnvOk.putOwn (E : EnvOk B F H σ env) {i : Nat} {xs ys : List Dt} {p : Addr} {vs : List V} (hi : env[i]? = some (.own xs)) (hs : σ[i]? = some (some (.ref p))) (hr : RpAll F ys vs) :
    EnvOk B F (upd H p (.lst vs)) σ (env.set i (.own ys)) := by
  obtain ⟨p', vs', h1, h2, h3, h4, h5⟩ := E.own hi
  rw [hs] at h1
  cases h1
  refine ⟨by rw [List.length_set, E.len], E.g, E.gf, E.fh.put h3, E.hh.put h2, E.gho, fun j s o e1 e2 => ?_, fun a b zs ws q e1 e2 e3 e4 => ?_⟩
  · by_cases e : i = j
    · subst e
      have hl : i < env.length := by simpa using (List.getElem?_eq_some_iff.mp e1).1
      rw [List.getElem?_set_self hl] at e1
      cases e1
      rw [hs] at e2
      cases e2
      exact ⟨p, vs, rfl, h2, h3, upd_same, hr⟩
    · rw [List.getElem?_set_ne e] at e1
      have q := E.sl j s o e1 e2
      cases s with
      | no => trivial
      | dat d => exact q
      | own zs =>
        obtain ⟨q, ws, f1, f2, f3, f4, f5⟩ := q
        have hne : q ≠ p := fun z => by
          subst z
          rw [f1] at e2
          exact e (E.sep i j xs zs q hi e1 hs e2)
        exact ⟨q, ws, f1, f2, f3, by rw [upd_ne hne]; exact f4, f5⟩
  · have old : ∀ {a : Nat} {zs : List Dt}, (env.set i (.own ys))[a]? = some (.own zs) → ∃ us, env[a]? = some (.own us) := fun {a zs} h => by
      by_cases e : i = a
      · subst e
        exact ⟨xs, hi⟩
      · rw [List.getElem?_set_ne e] at h
        exact ⟨zs, h⟩
    obtain ⟨us, g1⟩ := old e1
    obtain ⟨ws', g2⟩ := old e2
    exact E.sep a b us ws' q g1 g2 e3 e4
end

/-! ### judgements -/
def Ev (B : Bs) (m : Bool) (te : TE) (env : List Sl) (P : Dt → Prop) : Prop :=
  ∀ F H σ, EnvOk B F H σ env → ∀ Q : VK, (∀ d v F' H', P d → EnvOk B F' H' σ env → Gr F H F' H' → Rp (sel m F' H') d v → Q v H') → te σ H Q
/-- a new list -/
def El (B : Bs) (te : TE) (env : List Sl) (P : List Dt → Prop) : Prop :=
  ∀ F H σ, EnvOk B F H σ env → ∀ Q : VK, (∀ xs vs p F' H', P xs → EnvOk B F' H' σ env → Gr F H F' H' → H p = none → F' p = none → H' p = some (.lst vs) → RpAll F' xs vs → Q (.ref p) H') → te σ H Q
def Et (B : Bs) (tt : TT) (env : List Sl) (PT PF : Prop) : Prop :=
  ∀ F H σ, EnvOk B F H σ env → ∀ Q : Bool → Hp → Prop, (PT → ∀ F' H', EnvOk B F' H' σ env → Gr F H F' H' → Q true H') → (PF → ∀ F' H', EnvOk B F' H' σ env → Gr F H F' H' → Q false H') → tt σ H Q
def Ea (B : Bs) (m : Bool) (ta : TA) (env : List Sl) (P : List Dt → Prop) : Prop :=
  ∀ F H σ, EnvOk B F H σ env → ∀ Q : List V → Hp → Prop, (∀ ds vs F' H', P ds → EnvOk B F' H' σ env → Gr F H F' H' → RpAll (sel m F' H') ds vs → Q vs H') → ta σ H Q
def Nx (B : Bs) (env : List Sl) (N : L2.St → Hp → Prop) : Prop := ∀ F H σ, EnvOk B F H σ env → N σ H
def Wp (B : Bs) (ts : TS) (env : List Sl) (D : Ends) : Prop := ∀ F H σ, EnvOk B F H σ env → ts D σ H
/-- what may be handed back -/
def Rt (B : Bs) (N : VK) (Φ : Dt → Prop) : Prop :=
  ∀ d v G' H', Φ d → Ex B.G0 G' → (∀ a o, G' a = some o → B.G0 a = none → B.H0 a = none) → Ex G' H' → Ex B.H0 H' → Rp G' d v → N v H'
/-- an own list may be handed back -/
def RtO (B : Bs) (N : VK) (Φ : List Dt → Prop) : Prop :=
  ∀ xs vs p G' H', Φ xs → Ex B.G0 G' → (∀ a o, G' a = some o → B.G0 a = none → B.H0 a = none) → Ex G' H' → Ex B.H0 H' → B.H0 p = none → G' p = none → H' p = some (.lst vs) → RpAll G' xs vs → N (.ref p) H'
def CZ (B : Bs) (I : List Sl → Prop) : L2.St → Hp → Prop := fun σ H => ∃ F env, EnvOk B F H σ env ∧ I env
theorem nx_cz {B : Bs} {env : List Sl} {I : List Sl → Prop} (h : I env) : Nx B env (CZ B I) := fun F H σ E => ⟨F, env, E, h⟩
/-- what follows, then the rest -/
def Sq (u : TS) (D : Ends) : Ends := { D with nx := u D }
/-- within a loop -/
def Lo (B : Bs) (D : Ends) (I : List Sl → Prop) : Ends := { D with nx := CZ B I, ct := CZ B I, bk := D.nx }
/-- a def's own end -/
def Top (Q : VK) : Ends := { nx := fun _ H' => Q .non H', rt := Q }
theorem nx_sq {B : Bs} {env : List Sl} {u : TS} {D : Ends} (h : Wp B u env D) : Nx B env (Sq u D).nx := h
theorem nx_lo {B : Bs} {env : List Sl} {D : Ends} {I : List Sl → Prop} (h : I env) : Nx B env (Lo B D I).nx := nx_cz h
theorem ct_lo {B : Bs} {env : List Sl} {D : Ends} {I : List Sl → Prop} (h : I env) : Nx B env (Lo B D I).ct := nx_cz h
theorem bk_lo {B B' : Bs} {env : List Sl} {D : Ends} {I : List Sl → Prop} (h : Nx B env D.nx) : Nx B env (Lo B' D I).bk := h
theorem nx_top {B : Bs} {env : List Sl} {Q : VK} {Φ : Dt → Prop} (hr : Rt B Q Φ) (h : Φ .non) : Nx B env (Top Q).nx := fun F H σ E => hr .non .non F H h E.g (fun a o h1 h2 => E.gf a o h1 h2) E.fh E.hh (Rp.non_iff.mpr rfl)
theorem wp_nx {B : Bs} {env : List Sl} {u : TS} {D : Ends} (h : Wp B u env D) : Nx B env (u D) := h

/-- promises: data in, data out -/
abbrev Rd1 := List Dt → (Dt → Prop) → Prop
abbrev RdL := List Dt → (List Dt → Prop) → Prop
def spD (n : Nat) (R : Rd1) : Sp := fun vs H Q _ => ∃ (G : Hp) (args : List Dt) (Φ : Dt → Prop), args.length = n ∧ Ex G H ∧ RpAll G args vs ∧ R args Φ ∧ Rt ⟨H, G, []⟩ Q Φ
def spO (n : Nat) (R : RdL) : Sp := fun vs H Q _ => ∃ (G : Hp) (args : List Dt) (Φ : List Dt → Prop), args.length = n ∧ Ex G H ∧ RpAll G args vs ∧ R args Φ ∧ RtO ⟨H, G, []⟩ Q Φ
end DL

set_option Elab.async false
set_option linter.all false
set_option maxRecDepth 100000
set_option maxHeartbeats 4000000
set_option autoImplicit false
namespace DL
open PySem L2

theorem sz1 {n : Nat} (h : n ≤ 1000000) : n ≤ sizeLine := Nat.le_trans h (by decide)
theorem sz2 {n : Nat} (h : n < 1000000) : n < sizeLine := Nat.lt_of_lt_of_le h (by decide)

/-! ### kit rules under short names -/
section
variable {X : Cx}
def rAddS : R2 := fun x y H Q => ∃ i j, x = .str i ∧ y = .str j ∧ i.length + j.length ≤ sizeLine ∧ Q (.str (i ++ j)) H
theorem op_addS : OpR X (binaryOp .Add) rAddS := op_add_str
def rLtS : R2 := fun x y H Q => ∃ i j : Str, x = .str i ∧ y = .str j ∧ Q (.bl (decide (i.cps.toList < j.cps.toList))) H
def rGtS : R2 := fun x y H Q => ∃ i j : Str, x = .str i ∧ y = .str j ∧ Q (.bl (decide (j.cps.toList < i.cps.toList))) H
def rLeS : R2 := fun x y H Q => ∃ i j : Str, x = .str i ∧ y = .str j ∧ Q (.bl (!decide (j.cps.toList < i.cps.toList))) H
def rGeS : R2 := fun x y H Q => ∃ i j : Str, x = .str i ∧ y = .str j ∧ Q (.bl (!decide (i.cps.toList < j.cps.toList))) H
theorem op_ltS : OpR X (compareOp .Lt) rLtS := op_lt_str
theorem op_gtS : OpR X (compareOp .Gt) rGtS := op_gt_str
theorem op_leS : OpR X (compareOp .LtE) rLeS := op_le_str
theorem op_geS : OpR X (compareOp .GtE) rGeS := op_ge_str
def rIsNn : R2 := fun x y H Q => y = .non ∧ Q (.bl (decide (x = .non))) H
def rNotNn : R2 := fun x y H Q => y = .non ∧ Q (.bl (!decide (x = .non))) H
theorem op_isNn : OpR X (compareOp .Is) rIsNn := op_isN
theorem op_notNn : OpR X (compareOp .IsNot) rNotNn := op_notN
def rLenL (K : PySem.W.Frag) : List V → Hp → VK → Prop := fun xs H Q => ∃ p ys, xs = [.ref p] ∧ (SqL K H p ys ∨ SqT K H p ys) ∧ Q (.int ys.length) H
theorem cl_lenL : CallR X (.builtin "len") (rLenL X.K) := call_len_seq
def rLenS : List V → Hp → VK → Prop := fun xs H Q => ∃ z : Str, xs = [.str z] ∧ z.length ≤ sizeLine ∧ Q (.int z.length) H
theorem cl_lenS : CallR X (.builtin "len") rLenS := call_len_str
def rAbs : List V → Hp → VK → Prop := fun xs H Q => ∃ i : Int, xs = [.int i] ∧ Q (.int (if i < 0 then -i else i)) H
theorem cl_abs : CallR X (.builtin "abs") rAbs := call_abs
def rMax2' : List V → Hp → VK → Prop := fun xs H Q => ∃ i j : Int, xs = [.int i, .int j] ∧ Q (.int (if j > i then j else i)) H
theorem cl_max2 (hc : X.calm = true) : CallR X (.builtin "max") rMax2' := call_max2 hc
def rMin2' : List V → Hp → VK → Prop := fun xs H Q => ∃ i j : Int, xs = [.int i, .int j] ∧ Q (.int (if j < i then j else i)) H
theorem cl_min2 (hc : X.calm = true) : CallR X (.builtin "min") rMin2' := call_min2 hc
def rInt1 : List V → Hp → VK → Prop := fun xs H Q => (∃ i : Int, xs = [.int i] ∧ Q (.int i) H) ∨ ∃ k : Bool, xs = [.bl k] ∧ Q (.int (if k then 1 else 0)) H
theorem cl_int1 : CallR X (.type "int") rInt1 := call_int1
def rStrI : List V → Hp → VK → Prop := fun xs H Q => ∃ i : Int, xs = [.int i] ∧ i.natAbs.log2 < 1920 ∧ Q (.str (toString i)) H
theorem cl_strI : CallR X (.type "str") rStrI := call_str_int
def rListOf (K : PySem.W.Frag) : List V → Hp → VK → Prop := fun xs H Q => ∃ p ys, xs = [.ref p] ∧ (SqL K H p ys ∨ SqT K H p ys) ∧ ∀ l, H l = none → Q (.ref l) (upd H l (.lst ys))
theorem cl_listOf : CallR X (.type "list") (rListOf X.K) := call_list_of
def rJoin (K : PySem.W.Frag) : V → List V → Hp → VK → Prop := fun x xs H Q => ∃ a p, ∃ ys : List Str, x = .str a ∧ xs = [.ref p] ∧ (SqL K H p (ys.map V.str) ∨ SqT K H p (ys.map V.str)) ∧ (ys.map (·.length)).sum + ys.length * a.length ≤ 16777216 ∧ Q (.str (Txt.join a ys)) H
theorem mt_joinD : MtR X "str.join" (rJoin X.K) := mt_join
/-- s * n -/
def rMulS : R2 := fun x y H Q => ∃ (z : Str) (k : Int), x = .str z ∧ y = .int k ∧ -(2 ^ 63) ≤ k ∧ k < 2 ^ 63 ∧ z.length * k.toNat ≤ 1000000 ∧ Q (.str ⟨(List.replicate k.toNat z.cps.toList).flatten.toArray⟩) H
theorem foldl_app : ∀ (n : Nat) (x acc : Array Nat), ((List.replicate n x).foldl (· ++ ·) acc).toList = acc.toList ++ (List.replicate n x.toList).flatten
  | 0, _, _ => by simp
  | n + 1, x, acc => by
    rw [List.replicate_succ, List.foldl_cons, foldl_app n x (acc ++ x), List.replicate_succ, List.flatten_cons]
    simp
theorem op_mulS : OpR X (binaryOp .Mult) rMulS := by
  intro pins s σ H x y v u Q I rx ry h
  obtain ⟨z, k, rfl, rfl, h0, h1, h2, q⟩ := h
  obtain ⟨t, rfl⟩ := rx
  obtain ⟨t', rfl⟩ := ry
  have hz : z.length = z.cps.toList.length := by show z.cps.size = _; simp
  refine PySem.P.mul_str ?_ ?_ ?_ ?_
  · rw [decide_eq_false (by omega), decide_eq_false (by omega)]; rfl
  · intro a b hh
    have hk : 1 ≤ k := by omega
    have hkn : (k.toNat : Int) = k := Int.toNat_of_nonneg (by omega)
    have hm : (z.length : Int) * k ≤ 1000000 := by
      have : ((z.length * k.toNat : Nat) : Int) ≤ 1000000 := by omega
      rw [Int.natCast_mul, hkn] at this
      exact this
    have hle : (z.length : Int) ≤ (2 ^ 63 - 1) / k := by
      rw [Int.le_ediv_iff_mul_le (by omega)]
      omega
    omega
  · intro a b
    show decide (_ > sizeLine) = false
    exact decide_eq_false (by have : 1000000 ≤ sizeLine := by decide
                              omega)
  · by_cases c1 : k < 1
    · rw [if_pos c1]
      refine ⟨by decide, .str _, H, I.tok _, ⟨_, rfl⟩, ?_⟩
      have e : k.toNat = 0 := by omega
      rw [e] at q
      exact q
    · rw [if_neg c1]
      by_cases c2 : (k == 1 || z.length == 0) = true
      · rw [if_pos c2]
        refine ⟨.str z, H, I, ⟨t, rfl⟩, ?_⟩
        have e : (List.replicate k.toNat z.cps.toList).flatten = z.cps.toList := by
          rcases (Bool.or_eq_true _ _).mp c2 with c | c
          · have : k = 1 := eq_of_beq c
            subst this
            simp
          · have : z.length = 0 := eq_of_beq c
            rw [hz] at this
            have e0 : z.cps.toList = [] := List.eq_nil_of_length_eq_zero this
            rw [e0]
            induction k.toNat with
            | zero => rfl
            | succ n ih => rw [List.replicate_succ, List.flatten_cons, ih]; rfl
        rw [e] at q
        exact q
      · rw [if_neg c2]
        have e := foldl_app k.toNat z.cps #[]
        have e2 : (List.replicate k.toNat z.cps).foldl (· ++ ·) #[] = (List.replicate k.toNat z.cps.toList).flatten.toArray := by
          apply Array.ext'
          rw [e]
          simp
        have e3 : Str.length ⟨(List.replicate k.toNat z.cps).foldl (· ++ ·) #[]⟩ ≤ sizeLine := by
          rw [e2]
          show ((List.replicate k.toNat z.cps.toList).flatten.toArray).size ≤ sizeLine
          rw [List.size_toArray, List.length_flatten, List.map_replicate, List.sum_replicate_nat, ← hz]
          refine sz1 ?_
          rw [Nat.mul_comm]
          exact h2
        refine ⟨e3, .str _, H, I.tok _, ⟨_, rfl⟩, ?_⟩
        rw [e2]
        exact q
end

/-! ### expressions -/
section
variable {B : Bs} {m m1 m2 : Bool} {env : List Sl} {P : Dt → Prop} {ta tb te tc : TE} {K : PySem.W.Frag}
theorem sel_true (F H : Hp) : sel true F H = F := rfl
theorem sel_false (F H : Hp) : sel false F H = H := rfl
theorem sel_ex {F H F' H' : Hp} (e1 : Ex F F') (e2 : Ex H H') : Ex (sel m F H) (sel m F' H') := by
  cases m with
  | true => exact e1
  | false => exact e2
theorem ex_sel {F H : Hp} (e : Ex F H) : Ex (sel m F H) H := by
  cases m with
  | true => exact e
  | false => exact Ex.refl H
theorem ev_imp {P' : Dt → Prop} (h : Ev B m te env P') (k : ∀ d, P' d → P d) : Ev B m te env P := fun F H σ E Q q => h F H σ E Q fun d v F' H' hp => q d v F' H' (k d hp)
theorem ev_weak (h : Ev B true te env P) : Ev B m te env P := fun F H σ E Q q => h F H σ E Q fun d v F' H' hp E' e1 r => q d v F' H' hp E' e1 (Rp.sel E'.fh r)
/-- a value that no heap bears -/
def Sc : Dt → Prop
  | .non => True
  | .bl _ => True
  | .int _ => True
  | .str _ => True
  | _ => False
theorem Rp.sc {H H' : Hp} {d : Dt} {v : V} (s : Sc d) (h : Rp H d v) : Rp H' d v := by
  cases d with
  | non => rw [Rp.non_iff] at h ⊢; exact h
  | bl b => rw [Rp.bl_iff] at h ⊢; exact h
  | int b => rw [Rp.int_iff] at h ⊢; exact h
  | str b => rw [Rp.str_iff] at h ⊢; exact h
  | _ => exact s.elim
theorem ev_sc (h : Ev B false te env fun d => Sc d ∧ P d) : Ev B m te env P := fun F H σ E Q q => h F H σ E Q fun d v F' H' hp E' e1 r => q d v F' H' hp.2 E' e1 (Rp.sc hp.1 r)
theorem ev_var {i : Nat} {d : Dt} (h : env[i]? = some (.dat d)) (hp : P d) : Ev B m (tVar i) env P := fun F H σ E Q q => by
  obtain ⟨v, h1, h2⟩ := E.dat h
  exact ⟨v, h1, q d v F H hp E (Gr.refl F H) (Rp.sel E.fh h2)⟩
theorem ev_own {i : Nat} {xs : List Dt} (h : env[i]? = some (.own xs)) (hp : P (.list xs)) : Ev B false (tVar i) env P := fun F H σ E Q q => by
  obtain ⟨p, vs, h1, h2, h3, h4, h5⟩ := E.own h
  exact ⟨.ref p, h1, q _ _ F H hp E (Gr.refl F H) (Rp.list_iff.mpr ⟨p, vs, rfl, h4, RpAll.mono E.fh xs h5⟩)⟩
theorem ev_int {i : Int} (hp : P (.int i)) : Ev B m (tC (.int i)) env P := fun F H σ E Q q => q _ _ F H hp E (Gr.refl F H) (Rp.int_iff.mpr rfl)
theorem ev_bl {b : Bool} (hp : P (.bl b)) : Ev B m (tC (.bl b)) env P := fun F H σ E Q q => q _ _ F H hp E (Gr.refl F H) (Rp.bl_iff.mpr rfl)
theorem ev_non (hp : P .non) : Ev B m (tC .non) env P := fun F H σ E Q q => q _ _ F H hp E (Gr.refl F H) (Rp.non_iff.mpr rfl)
theorem ev_str {z : Str} {x : List Nat} (e : z = S x) (hp : P (.str x)) : Ev B m (tC (.str z)) env P := fun F H σ E Q q => q _ _ F H hp E (Gr.refl F H) (Rp.str_iff.mpr (by rw [e]))
/-- two operands and an operation -/
theorem ev_op2 {r : R2} {P2 : Dt → Dt → Prop} (h : Ev B m1 ta env fun x => Ev B m2 tb env fun y => P2 x y)
    (hr : ∀ dx dy x y F H σ (Q : VK), EnvOk B F H σ env → Rp (sel m1 F H) dx x → Rp (sel m2 F H) dy y → P2 dx dy → (∀ d v F' H', P d → EnvOk B F' H' σ env → Gr F H F' H' → Rp (sel m F' H') d v → Q v H') → r x y H Q) :
    Ev B m (tOp r ta tb) env P := fun F H σ E Q q => h F H σ E _ fun dx x F1 H1 h1 E1 a1 r1 => h1 F1 H1 σ E1 _ fun dy y F2 H2 h2 E2 a2 r2 =>
  hr dx dy x y F2 H2 σ Q E2 (Rp.mono (sel_ex a2.f a2.h) dx r1) r2 h2 fun d v F' H' hp E' a3 r3 => q d v F' H' hp E' ((a1.trans a2).trans a3) r3
theorem ev_op1 {r : V → Hp → VK → Prop} {P1 : Dt → Prop} (h : Ev B m1 ta env P1)
    (hr : ∀ dx x F H σ (Q : VK), EnvOk B F H σ env → Rp (sel m1 F H) dx x → P1 dx → (∀ d v F' H', P d → EnvOk B F' H' σ env → Gr F H F' H' → Rp (sel m F' H') d v → Q v H') → r x H Q) :
    Ev B m (tUn r ta) env P := fun F H σ E Q q => h F H σ E _ fun dx x F1 H1 h1 E1 a1 r1 =>
  hr dx x F1 H1 σ Q E1 r1 h1 fun d v F' H' hp E' a3 r3 => q d v F' H' hp E' (a1.trans a3) r3
theorem ev_ii {f : Int → Int → Int} (h : Ev B false ta env fun x => Ev B false tb env fun y => ∃ i j, x = .int i ∧ y = .int j ∧ P (.int (f i j))) : Ev B m (tOp (rI0 fun i j => .int (f i j)) ta tb) env P :=
  ev_op2 h fun dx dy x y F H σ Q E rx ry hp k => by
    obtain ⟨i, j, rfl, rfl, hp⟩ := hp
    exact ⟨i, j, Rp.int_iff.mp rx, Rp.int_iff.mp ry, k _ _ F H hp E (Gr.refl F H) (Rp.int_iff.mpr rfl)⟩
theorem ev_iiC {C : Int → Int → Prop} {f : Int → Int → Int} (h : Ev B false ta env fun x => Ev B false tb env fun y => ∃ i j, x = .int i ∧ y = .int j ∧ C i j ∧ P (.int (f i j))) : Ev B m (tOp (rI C fun i j => .int (f i j)) ta tb) env P :=
  ev_op2 h fun dx dy x y F H σ Q E rx ry hp k => by
    obtain ⟨i, j, rfl, rfl, hc, hp⟩ := hp
    exact ⟨i, j, Rp.int_iff.mp rx, Rp.int_iff.mp ry, hc, k _ _ F H hp E (Gr.refl F H) (Rp.int_iff.mpr rfl)⟩
theorem ev_ib {f : Int → Int → Bool} (h : Ev B false ta env fun x => Ev B false tb env fun y => ∃ i j, x = .int i ∧ y = .int j ∧ P (.bl (f i j))) : Ev B m (tOp (rI0 fun i j => .bl (f i j)) ta tb) env P :=
  ev_op2 h fun dx dy x y F H σ Q E rx ry hp k => by
    obtain ⟨i, j, rfl, rfl, hp⟩ := hp
    exact ⟨i, j, Rp.int_iff.mp rx, Rp.int_iff.mp ry, k _ _ F H hp E (Gr.refl F H) (Rp.bl_iff.mpr rfl)⟩
theorem ev_neg (h : Ev B false ta env fun x => ∃ i, x = .int i ∧ P (.int (-i))) : Ev B m (tUn (rU fun i => .int (-i)) ta) env P :=
  ev_op1 h fun dx x F H σ Q E rx hp k => by
    obtain ⟨i, rfl, hp⟩ := hp
    exact ⟨i, Rp.int_iff.mp rx, k _ _ F H hp E (Gr.refl F H) (Rp.int_iff.mpr rfl)⟩
theorem S_app (x y : List Nat) : S x ++ S y = S (x ++ y) := by
  show (⟨x.toArray ++ y.toArray⟩ : Str) = ⟨(x ++ y).toArray⟩
  rw [List.append_toArray]
theorem ev_addS (h : Ev B false ta env fun x => Ev B false tb env fun y => ∃ i j, x = .str i ∧ y = .str j ∧ i.length + j.length ≤ 1000000 ∧ P (.str (i ++ j))) : Ev B m (tOp rAddS ta tb) env P :=
  ev_op2 h fun dx dy x y F H σ Q E rx ry hp k => by
    obtain ⟨i, j, rfl, rfl, hc, hp⟩ := hp
    refine ⟨S i, S j, Rp.str_iff.mp rx, Rp.str_iff.mp ry, by rw [S_len, S_len]; exact sz1 hc, ?_⟩
    rw [S_app]
    exact k _ _ F H hp E (Gr.refl F H) (Rp.str_iff.mpr rfl)
theorem ev_mulS (h : Ev B false ta env fun x => Ev B false tb env fun y => ∃ (z : List Nat) (n : Int), x = .str z ∧ y = .int n ∧ -1000000 ≤ n ∧ n ≤ 1000000 ∧ z.length * n.toNat ≤ 1000000 ∧ P (.str (List.replicate n.toNat z).flatten)) : Ev B m (tOp rMulS ta tb) env P :=
  ev_op2 h fun dx dy x y F H σ Q E rx ry hp k => by
    obtain ⟨i, j, rfl, rfl, h1, h2, h3, hp⟩ := hp
    refine ⟨S i, j, Rp.str_iff.mp rx, Rp.int_iff.mp ry, by omega, by omega, by rw [S_len]; exact h3, ?_⟩
    exact k _ _ F H hp E (Gr.refl F H) (Rp.str_iff.mpr rfl)
/-- a comparison of two scalars -/
def EqP (b : Bool) (P : Dt → Prop) : Dt → Dt → Prop
  | .int i, .int j => P (.bl (b ^^ decide (i = j)))
  | .str i, .str j => P (.bl (b ^^ decide (i = j)))
  | .bl i, .bl j => P (.bl (b ^^ decide (i = j)))
  | _, _ => False
theorem eqP_V {P : Dt → Prop} {dx dy : Dt} {x y : V} {H : Hp} {b : Bool} (h : EqP b P dx dy) (rx : Rp H dx x) (ry : Rp H dy y) : scal x y = true ∧ P (.bl (b ^^ decide (x = y))) := by
  cases dx with
  | int i =>
    cases dy with
    | int j =>
      rw [Rp.int_iff.mp rx, Rp.int_iff.mp ry]
      refine ⟨rfl, ?_⟩
      have : decide (V.int i = V.int j) = decide (i = j) := by simp
      rw [this]; exact h
    | _ => exact h.elim
  | str i =>
    cases dy with
    | str j =>
      rw [Rp.str_iff.mp rx, Rp.str_iff.mp ry]
      refine ⟨rfl, ?_⟩
      have : decide (V.str (S i) = V.str (S j)) = decide (i = j) := by
        by_cases e : i = j
        · subst e; simp
        · have : ¬ S i = S j := fun z => e (S_inj z)
          simp [e, this]
      rw [this]; exact h
    | _ => exact h.elim
  | bl i =>
    cases dy with
    | bl j =>
      rw [Rp.bl_iff.mp rx, Rp.bl_iff.mp ry]
      refine ⟨rfl, ?_⟩
      have : decide (V.bl i = V.bl j) = decide (i = j) := by simp
      rw [this]; exact h
    | _ => exact h.elim
  | _ => exact h.elim
theorem ev_eq (h : Ev B false ta env fun x => Ev B false tb env fun y => EqP false P x y) : Ev B m (tOp rEq ta tb) env P :=
  ev_op2 h fun dx dy x y F H σ Q E rx ry hp k => by
    obtain ⟨h1, h2⟩ := eqP_V hp rx ry
    refine ⟨h1, ?_⟩
    have := k _ (.bl (false ^^ decide (x = y))) F H h2 E (Gr.refl F H) (Rp.bl_iff.mpr rfl)
    rwa [Bool.false_xor] at this
theorem ev_ne (h : Ev B false ta env fun x => Ev B false tb env fun y => EqP true P x y) : Ev B m (tOp rNe ta tb) env P :=
  ev_op2 h fun dx dy x y F H σ Q E rx ry hp k => by
    obtain ⟨h1, h2⟩ := eqP_V hp rx ry
    refine ⟨h1, ?_⟩
    have := k _ (.bl (true ^^ decide (x = y))) F H h2 E (Gr.refl F H) (Rp.bl_iff.mpr rfl)
    rwa [Bool.true_xor] at this
theorem ev_ltS (h : Ev B false ta env fun x => Ev B false tb env fun y => ∃ i j, x = .str i ∧ y = .str j ∧ P (.bl (decide (i < j)))) : Ev B m (tOp rLtS ta tb) env P :=
  ev_op2 h fun dx dy x y F H σ Q E rx ry hp k => by
    obtain ⟨i, j, rfl, rfl, hp⟩ := hp
    exact ⟨S i, S j, Rp.str_iff.mp rx, Rp.str_iff.mp ry, k _ _ F H hp E (Gr.refl F H) (Rp.bl_iff.mpr rfl)⟩
theorem ev_gtS (h : Ev B false ta env fun x => Ev B false tb env fun y => ∃ i j, x = .str i ∧ y = .str j ∧ P (.bl (decide (j < i)))) : Ev B m (tOp rGtS ta tb) env P :=
  ev_op2 h fun dx dy x y F H σ Q E rx ry hp k => by
    obtain ⟨i, j, rfl, rfl, hp⟩ := hp
    exact ⟨S i, S j, Rp.str_iff.mp rx, Rp.str_iff.mp ry, k _ _ F H hp E (Gr.refl F H) (Rp.bl_iff.mpr rfl)⟩
theorem ev_leS (h : Ev B false ta env fun x => Ev B false tb env fun y => ∃ i j, x = .str i ∧ y = .str j ∧ P (.bl (!decide (j < i)))) : Ev B m (tOp rLeS ta tb) env P :=
  ev_op2 h fun dx dy x y F H σ Q E rx ry hp k => by
    obtain ⟨i, j, rfl, rfl, hp⟩ := hp
    exact ⟨S i, S j, Rp.str_iff.mp rx, Rp.str_iff.mp ry, k _ _ F H hp E (Gr.refl F H) (Rp.bl_iff.mpr rfl)⟩
theorem ev_geS (h : Ev B false ta env fun x => Ev B false tb env fun y => ∃ i j, x = .str i ∧ y = .str j ∧ P (.bl (!decide (i < j)))) : Ev B m (tOp rGeS ta tb) env P :=
  ev_op2 h fun dx dy x y F H σ Q E rx ry hp k => by
    obtain ⟨i, j, rfl, rfl, hp⟩ := hp
    exact ⟨S i, S j, Rp.str_iff.mp rx, Rp.str_iff.mp ry, k _ _ F H hp E (Gr.refl F H) (Rp.bl_iff.mpr rfl)⟩
/-- is None -/
def isNn : Dt → Bool
  | .non => true
  | _ => false
theorem isNn_V {d : Dt} {v : V} {H : Hp} (r : Rp H d v) : decide (v = .non) = isNn d := by
  cases d with
  | non => rw [Rp.non_iff.mp r]; rfl
  | bl b => rw [Rp.bl_iff.mp r]; rfl
  | int b => rw [Rp.int_iff.mp r]; rfl
  | str b => rw [Rp.str_iff.mp r]; rfl
  | list xs => obtain ⟨a, vs, rfl, _⟩ := Rp.list_iff.mp r; rfl
  | tup xs => obtain ⟨a, vs, rfl, _⟩ := Rp.tup_iff.mp r; rfl
  | deck => obtain ⟨a, rfl, _⟩ := Rp.deck_iff.mp r; rfl
  | raw a => rw [Rp.raw_iff.mp r]; rfl
theorem ev_isNn (h : Ev B false ta env fun x => P (.bl (isNn x))) : Ev B m (tOp rIsNn ta (tC .non)) env P :=
  ev_op2 (m2 := false) (P2 := fun x y => y = .non ∧ P (.bl (isNn x))) (ev_imp h fun x hp => ev_non ⟨rfl, hp⟩) fun dx dy x y F H σ Q E rx ry hp k => by
    obtain ⟨rfl, hp⟩ := hp
    refine ⟨Rp.non_iff.mp ry, ?_⟩
    rw [isNn_V rx]
    exact k _ _ F H hp E (Gr.refl F H) (Rp.bl_iff.mpr rfl)
theorem ev_notNn (h : Ev B false ta env fun x => P (.bl (!isNn x))) : Ev B m (tOp rNotNn ta (tC .non)) env P :=
  ev_op2 (m2 := false) (P2 := fun x y => y = .non ∧ P (.bl (!isNn x))) (ev_imp h fun x hp => ev_non ⟨rfl, hp⟩) fun dx dy x y F H σ Q E rx ry hp k => by
    obtain ⟨rfl, hp⟩ := hp
    refine ⟨Rp.non_iff.mp ry, ?_⟩
    rw [isNn_V rx]
    exact k _ _ F H hp E (Gr.refl F H) (Rp.bl_iff.mpr rfl)
/-- x is True, x is not True, x a bool -/
theorem ev_isBl (h : Ev B false ta env fun x => Ev B false tb env fun y => ∃ i j, x = .bl i ∧ y = .bl j ∧ P (.bl (decide (i = j)))) : Ev B m (tOp rIsB ta tb) env P :=
  ev_op2 h fun dx dy x y F H σ Q E rx ry hp k => by
    obtain ⟨i, j, rfl, rfl, hp⟩ := hp
    exact ⟨i, j, Rp.bl_iff.mp rx, Rp.bl_iff.mp ry, k _ _ F H hp E (Gr.refl F H) (Rp.bl_iff.mpr rfl)⟩
theorem ev_notBl (h : Ev B false ta env fun x => Ev B false tb env fun y => ∃ i j, x = .bl i ∧ y = .bl j ∧ P (.bl (!decide (i = j)))) : Ev B m (tOp rNotB ta tb) env P :=
  ev_op2 h fun dx dy x y F H σ Q E rx ry hp k => by
    obtain ⟨i, j, rfl, rfl, hp⟩ := hp
    exact ⟨i, j, Rp.bl_iff.mp rx, Rp.bl_iff.mp ry, k _ _ F H hp E (Gr.refl F H) (Rp.bl_iff.mpr rfl)⟩
theorem ev_notV (h : Ev B false ta env fun x => ∃ b, x = .bl b ∧ P (.bl (!b))) : Ev B m (tNotV ta) env P := fun F H σ E Q q => h F H σ E _ fun dx x F1 H1 h1 E1 a1 r1 => by
  obtain ⟨b, rfl, hp⟩ := h1
  exact ⟨b, Rp.bl_iff.mp r1, q _ _ F1 H1 hp E1 a1 (Rp.bl_iff.mpr rfl)⟩
theorem ev_andV (h : Ev B false ta env fun x => ∃ b, x = .bl b ∧ (b = true → Ev B m tb env P) ∧ (b = false → P (.bl false))) : Ev B m (tAndV ta tb) env P := fun F H σ E Q q => h F H σ E _ fun dx x F1 H1 h1 E1 a1 r1 => by
  obtain ⟨b, rfl, h2, h3⟩ := h1
  refine ⟨b, Rp.bl_iff.mp r1, ?_⟩
  cases b with
  | true => exact h2 rfl F1 H1 σ E1 Q fun d v F' H' hp E' a2 r2 => q d v F' H' hp E' (a1.trans a2) r2
  | false => exact q _ _ F1 H1 (h3 rfl) E1 a1 (Rp.bl_iff.mpr rfl)
theorem ev_orV (h : Ev B false ta env fun x => ∃ b, x = .bl b ∧ (b = false → Ev B m tb env P) ∧ (b = true → P (.bl true))) : Ev B m (tOrV ta tb) env P := fun F H σ E Q q => h F H σ E _ fun dx x F1 H1 h1 E1 a1 r1 => by
  obtain ⟨b, rfl, h2, h3⟩ := h1
  refine ⟨b, Rp.bl_iff.mp r1, ?_⟩
  cases b with
  | false => exact h2 rfl F1 H1 σ E1 Q fun d v F' H' hp E' a2 r2 => q d v F' H' hp E' (a1.trans a2) r2
  | true => exact q _ _ F1 H1 (h3 rfl) E1 a1 (Rp.bl_iff.mpr rfl)
/-- a if t else b -/
theorem ev_if {tt : TT} (h : Et B tt env (Ev B m ta env P) (Ev B m tb env P)) : Ev B m (tIf tt ta tb) env P := fun F H σ E Q q => h F H σ E _
  (fun h1 F1 H1 E1 a1 => h1 F1 H1 σ E1 Q fun d v F' H' hp E' a2 r2 => q d v F' H' hp E' (a1.trans a2) r2)
  (fun h1 F1 H1 E1 a1 => h1 F1 H1 σ E1 Q fun d v F' H' hp E' a2 r2 => q d v F' H' hp E' (a1.trans a2) r2)
end

/-! ### tests -/
section
variable {B : Bs} {m : Bool} {env : List Sl} {PT PF PT' PF' : Prop} {ta tb te tc : TE} {t u : TT}
theorem et_imp (h : Et B t env PT' PF') (h1 : PT' → PT) (h2 : PF' → PF) : Et B t env PT PF := fun F H σ E Q q1 q2 => h F H σ E Q (fun z => q1 (h1 z)) (fun z => q2 (h2 z))
theorem et_test (h : Ev B false te env fun x => ∃ b, x = .bl b ∧ (b = true → PT) ∧ (b = false → PF)) : Et B (tTest te) env PT PF := fun F H σ E Q q1 q2 => h F H σ E _ fun dx x F1 H1 h1 E1 a1 r1 => by
  obtain ⟨b, rfl, h2, h3⟩ := h1
  refine ⟨b, Rp.bl_iff.mp r1, ?_⟩
  cases b with
  | true => exact q1 (h2 rfl) F1 H1 E1 a1
  | false => exact q2 (h3 rfl) F1 H1 E1 a1
theorem et_B (h : Ev B false te env fun x => ∃ b, x = .bl b ∧ (b = true → PT) ∧ (b = false → PF)) : Et B (tB te) env PT PF := et_test h
theorem et_not (h : Et B t env PF PT) : Et B (tNot t) env PT PF := fun F H σ E Q q1 q2 => h F H σ E _ (fun z => q2 z) (fun z => q1 z)
theorem et_and (h : Et B t env (Et B u env PT PF) PF) : Et B (tAnd t u) env PT PF := fun F H σ E Q q1 q2 => h F H σ E _
  (fun z F1 H1 E1 a1 => by
    show u σ H1 Q
    exact z F1 H1 σ E1 Q (fun y F2 H2 E2 a2 => q1 y F2 H2 E2 (a1.trans a2)) (fun y F2 H2 E2 a2 => q2 y F2 H2 E2 (a1.trans a2)))
  (fun z F1 H1 E1 a1 => by
    show Q false H1
    exact q2 z F1 H1 E1 a1)
theorem et_or (h : Et B t env PT (Et B u env PT PF)) : Et B (tOr t u) env PT PF := fun F H σ E Q q1 q2 => h F H σ E _
  (fun z F1 H1 E1 a1 => by
    show Q true H1
    exact q1 z F1 H1 E1 a1)
  (fun z F1 H1 E1 a1 => by
    show u σ H1 Q
    exact z F1 H1 σ E1 Q (fun y F2 H2 E2 a2 => q1 y F2 H2 E2 (a1.trans a2)) (fun y F2 H2 E2 a2 => q2 y F2 H2 E2 (a1.trans a2)))
theorem et_ib {R : Int → Int → Prop} [∀ i j, Decidable (R i j)] (h : Ev B false ta env fun x => Ev B false tb env fun y => ∃ i j, x = .int i ∧ y = .int j ∧ (R i j → PT) ∧ (¬ R i j → PF)) : Et B (tTest (tOp (rI0 fun i j => .bl (decide (R i j))) ta tb)) env PT PF :=
  et_test (ev_ib (f := fun i j => decide (R i j)) (ev_imp h fun x hx => ev_imp hx fun y hy => by
    obtain ⟨i, j, rfl, rfl, h1, h2⟩ := hy
    exact ⟨i, j, rfl, rfl, _, rfl, fun z => h1 (of_decide_eq_true z), fun z => h2 (of_decide_eq_false z)⟩))
def EqT (PT PF : Prop) : Dt → Dt → Prop
  | .int i, .int j => (i = j → PT) ∧ (i ≠ j → PF)
  | .str i, .str j => (i = j → PT) ∧ (i ≠ j → PF)
  | .bl i, .bl j => (i = j → PT) ∧ (i ≠ j → PF)
  | _, _ => False
theorem eqT_P {b : Bool} {x y : Dt} {A C : Prop} (h : EqT A C x y) : EqP b (fun z => ∃ c, z = .bl c ∧ (c = !b → A) ∧ (c = b → C)) x y := by
  cases x with
  | int i =>
    cases y with
    | int j =>
      refine ⟨_, rfl, fun z => h.1 ?_, fun z => h.2 ?_⟩
      · by_cases e : i = j
        · exact e
        · rw [decide_eq_false e] at z; cases b <;> cases z
      · intro e
        rw [decide_eq_true e] at z; cases b <;> cases z
    | _ => exact h.elim
  | str i =>
    cases y with
    | str j =>
      refine ⟨_, rfl, fun z => h.1 ?_, fun z => h.2 ?_⟩
      · by_cases e : i = j
        · exact e
        · rw [decide_eq_false e] at z; cases b <;> cases z
      · intro e
        rw [decide_eq_true e] at z; cases b <;> cases z
    | _ => exact h.elim
  | bl i =>
    cases y with
    | bl j =>
      refine ⟨_, rfl, fun z => h.1 ?_, fun z => h.2 ?_⟩
      · by_cases e : i = j
        · exact e
        · rw [decide_eq_false e] at z; cases b <;> cases z
      · intro e
        rw [decide_eq_true e] at z; cases b <;> cases z
    | _ => exact h.elim
  | _ => exact h.elim
theorem et_eq (h : Ev B false ta env fun x => Ev B false tb env fun y => EqT PT PF x y) : Et B (tTest (tOp rEq ta tb)) env PT PF :=
  et_test (ev_eq (ev_imp h fun x hx => ev_imp hx fun y hy => eqT_P hy))
theorem et_ne (h : Ev B false ta env fun x => Ev B false tb env fun y => EqT PF PT x y) : Et B (tTest (tOp rNe ta tb)) env PT PF :=
  et_test (ev_ne (ev_imp h fun x hx => ev_imp hx fun y hy => by
    have := eqT_P (b := true) hy
    cases x <;> cases y <;> first | exact this.elim | (obtain ⟨c, e, h1, h2⟩ := this; exact ⟨c, e, h2, h1⟩)))
theorem eqT_int {i j : Int} (h1 : i = j → PT) (h2 : i ≠ j → PF) : EqT PT PF (.int i) (.int j) := ⟨h1, h2⟩
theorem eqT_str {i j : List Nat} (h1 : i = j → PT) (h2 : i ≠ j → PF) : EqT PT PF (.str i) (.str j) := ⟨h1, h2⟩
theorem eqT_bl {i j : Bool} (h1 : i = j → PT) (h2 : i ≠ j → PF) : EqT PT PF (.bl i) (.bl j) := ⟨h1, h2⟩
theorem et_ltS (h : Ev B false ta env fun x => Ev B false tb env fun y => ∃ i j, x = .str i ∧ y = .str j ∧ (i < j → PT) ∧ (¬ i < j → PF)) : Et B (tTest (tOp rLtS ta tb)) env PT PF :=
  et_test (ev_ltS (ev_imp h fun x hx => ev_imp hx fun y hy => by
    obtain ⟨i, j, rfl, rfl, h1, h2⟩ := hy
    exact ⟨i, j, rfl, rfl, _, rfl, fun z => h1 (of_decide_eq_true z), fun z => h2 (of_decide_eq_false z)⟩))
theorem et_gtS (h : Ev B false ta env fun x => Ev B false tb env fun y => ∃ i j, x = .str i ∧ y = .str j ∧ (j < i → PT) ∧ (¬ j < i → PF)) : Et B (tTest (tOp rGtS ta tb)) env PT PF :=
  et_test (ev_gtS (ev_imp h fun x hx => ev_imp hx fun y hy => by
    obtain ⟨i, j, rfl, rfl, h1, h2⟩ := hy
    exact ⟨i, j, rfl, rfl, _, rfl, fun z => h1 (of_decide_eq_true z), fun z => h2 (of_decide_eq_false z)⟩))
theorem et_leS (h : Ev B false ta env fun x => Ev B false tb env fun y => ∃ i j, x = .str i ∧ y = .str j ∧ (¬ j < i → PT) ∧ (j < i → PF)) : Et B (tTest (tOp rLeS ta tb)) env PT PF :=
  et_test (ev_leS (ev_imp h fun x hx => ev_imp hx fun y hy => by
    obtain ⟨i, j, rfl, rfl, h1, h2⟩ := hy
    exact ⟨i, j, rfl, rfl, _, rfl, fun z => h1 (by simpa using z), fun z => h2 (by simpa using z)⟩))
theorem et_geS (h : Ev B false ta env fun x => Ev B false tb env fun y => ∃ i j, x = .str i ∧ y = .str j ∧ (¬ i < j → PT) ∧ (i < j → PF)) : Et B (tTest (tOp rGeS ta tb)) env PT PF :=
  et_test (ev_geS (ev_imp h fun x hx => ev_imp hx fun y hy => by
    obtain ⟨i, j, rfl, rfl, h1, h2⟩ := hy
    exact ⟨i, j, rfl, rfl, _, rfl, fun z => h1 (by simpa using z), fun z => h2 (by simpa using z)⟩))
end
end DL

set_option Elab.async false
set_option linter.all false
set_option maxRecDepth 100000
set_option maxHeartbeats 4000000
set_option autoImplicit false
namespace DL
open PySem PySem.Spec PyProof.Rows L2

/-! ### lists -/
/-- a list whose items are frozen -/
def Es (B : Bs) (te : TE) (env : List Sl) (P : List Dt → Prop) : Prop :=
  ∀ F H σ, EnvOk B F H σ env → ∀ Q : VK, (∀ xs vs p F' H', P xs → EnvOk B F' H' σ env → Gr F H F' H' → H' p = some (.lst vs) → RpAll F' xs vs → Q (.ref p) H') → te σ H Q
def cutL {α : Type} (xs : List α) (lo hi : Option Int) : List α := (xs.drop (HT.sIx xs.length 0 lo)).take (HT.sIx xs.length xs.length hi - HT.sIx xs.length 0 lo)

section
variable {B : Bs} {m m1 m2 : Bool} {env : List Sl} {P : Dt → Prop} {PL : List Dt → Prop} {ta tb te tc : TE} {K : PySem.W.Frag}
theorem es_own {i : Nat} {xs : List Dt} (h : env[i]? = some (.own xs)) (hp : PL xs) : Es B (tVar i) env PL := fun F H σ E Q q => by
  obtain ⟨p, vs, h1, h2, h3, h4, h5⟩ := E.own h
  exact ⟨.ref p, h1, q _ _ _ F H hp E (Gr.refl F H) h4 h5⟩
theorem es_ev (h : Ev B true te env fun d => ∃ xs, d = .list xs ∧ PL xs) : Es B te env PL := fun F H σ E Q q => h F H σ E Q fun d v F' H' hp E' g r => by
  obtain ⟨xs, rfl, hp⟩ := hp
  obtain ⟨a, vs, rfl, h1, h2⟩ := Rp.list_iff.mp r
  exact q xs vs a F' H' hp E' g (E'.fh _ _ h1) h2
theorem es_el (h : El B te env PL) : Es B te env PL := fun F H σ E Q q => h F H σ E Q fun xs vs p F' H' hp E' g h1 h2 h3 r => q xs vs p F' H' hp E' g h3 r
theorem el_imp {P' : List Dt → Prop} (h : El B te env P') (k : ∀ d, P' d → PL d) : El B te env PL := fun F H σ E Q q => h F H σ E Q fun xs vs p F' H' hp => q xs vs p F' H' (k xs hp)
/-- a new list as a value -/
theorem ev_el (h : El B te env fun xs => P (.list xs)) : Ev B m te env P := fun F H σ E Q q => h F H σ E Q fun xs vs p F' H' hp E' g h1 h2 h3 r => by
  have h0 : B.H0 p = none := E.hh.back h1
  have no : ∀ (i : Nat) ys, env[i]? = some (.own ys) → σ[i]? ≠ some (some (.ref p)) := fun i ys hi hs => by
    obtain ⟨p', vs', e1, e2, e3, e4, e5⟩ := E.own hi
    rw [hs] at e1
    cases e1
    rw [h1] at e4
    cases e4
  have E2 := E'.freezeP h0 h2 h3 no
  have g2 : Gr F H (upd F' p (.lst vs)) H' := ⟨g.f.trans (Ex.new h2), g.h, fun a o ha hn => by
    by_cases e : a = p
    · subst e
      exact h1
    · rw [upd_ne e] at ha
      exact g.n a o ha hn⟩
  exact q _ _ _ H' hp E2 g2 (Rp.sel E2.fh (Rp.list_iff.mpr ⟨p, vs, rfl, upd_same, RpAll.mono (Ex.new h2) xs r⟩))

theorem ea_nil (h : PL []) : Ea B m tNil env PL := fun F H σ E Q q => q [] [] F H h E (Gr.refl F H) RpAll.nil
theorem ea_cons {tr : TA} (h : Ev B m te env fun d => Ea B m tr env fun ds => PL (d :: ds)) : Ea B m (tCons te tr) env PL := fun F H σ E Q q => h F H σ E _ fun d v F1 H1 h1 E1 g1 r1 =>
  h1 F1 H1 σ E1 _ fun ds vs F2 H2 h2 E2 g2 r2 => q (d :: ds) (v :: vs) F2 H2 h2 E2 (g1.trans g2) (RpAll.cons (Rp.mono (sel_ex g2.f g2.h) d r1) r2)
theorem ea_imp {ta : TA} {P' : List Dt → Prop} (h : Ea B m ta env P') (k : ∀ d, P' d → PL d) : Ea B m ta env PL := fun F H σ E Q q => h F H σ E Q fun ds vs F' H' hp => q ds vs F' H' (k ds hp)
/-- a tuple display -/
theorem ev_tup {ta : TA} (h : Ea B m ta env fun ds => ds.length ≤ 1000000 ∧ P (.tup ds)) : Ev B m (tTup ta) env P := fun F H σ E Q q => h F H σ E _ fun ds vs F1 H1 h1 E1 g1 r1 =>
  ⟨by rw [← r1.length]; exact sz1 h1.1, fun p hp => by
    cases m with
    | true =>
      have E2 := E1.alloc (.tup vs) hp
      exact q _ _ _ _ h1.2 E2 (g1.trans (Gr.alloc E1.fh hp)) (Rp.tup_iff.mpr ⟨p, vs, rfl, upd_same, RpAll.mono (Ex.new (E1.fh.back hp)) ds r1⟩)
    | false =>
      have E2 := E1.allocH (.tup vs) hp
      exact q _ _ _ _ h1.2 E2 (g1.trans (Gr.allocH hp)) (Rp.tup_iff.mpr ⟨p, vs, rfl, upd_same, RpAll.mono (Ex.new hp) ds r1⟩)⟩
/-- a list display -/
theorem el_lst {ta : TA} (h : Ea B true ta env fun ds => ds.length ≤ 1000000 ∧ PL ds) : El B (tLst ta) env PL := fun F H σ E Q q => h F H σ E _ fun ds vs F1 H1 h1 E1 g1 r1 =>
  ⟨by rw [← r1.length]; exact sz1 h1.1, fun p hp => q ds vs p F1 _ h1.2 (E1.allocH (.lst vs) hp) (g1.trans (Gr.allocH hp)) (g1.h.back hp) (E1.fh.back hp) upd_same r1⟩
/-- a list display with own lists within -/
theorem ev_lstW {ta : TA} (h : Ea B false ta env fun ds => ds.length ≤ 1000000 ∧ P (.list ds)) : Ev B false (tLst ta) env P := fun F H σ E Q q => h F H σ E _ fun ds vs F1 H1 h1 E1 g1 r1 =>
  ⟨by rw [← r1.length]; exact sz1 h1.1, fun p hp => q _ _ F1 _ h1.2 (E1.allocH (.lst vs) hp) (g1.trans (Gr.allocH hp)) (Rp.list_iff.mpr ⟨p, vs, rfl, upd_same, RpAll.mono (Ex.new hp) ds r1⟩)⟩
theorem el_cat (h : Es B ta env fun xs => Es B tb env fun ys => xs.length + ys.length ≤ 1000000 ∧ PL (xs ++ ys)) : El B (tOp rCat ta tb) env PL := fun F H σ E Q q =>
  h F H σ E _ fun xs vs a F1 H1 h1 E1 g1 ha r1 => h1 F1 H1 σ E1 _ fun ys ws b F2 H2 h2 E2 g2 hb r2 =>
    ⟨a, b, vs, ws, rfl, rfl, g2.h _ _ ha, hb, by rw [← r1.length, ← r2.length]; exact sz1 h2.1, fun p hp =>
      q _ _ p F2 _ h2.2 (E2.allocH _ hp) ((g1.trans g2).trans (Gr.allocH hp)) ((g1.trans g2).h.back hp) (E2.fh.back hp) upd_same ((RpAll.mono g2.f xs r1).append r2)⟩
theorem el_rep (h : Es B ta env fun xs => Ev B false tb env fun y => ∃ n : Int, y = .int n ∧ -1000000 ≤ n ∧ n ≤ 1000000 ∧ xs.length * n.toNat ≤ 1000000 ∧ PL (List.replicate n.toNat xs).flatten) : El B (tOp rRep ta tb) env PL := fun F H σ E Q q =>
  h F H σ E _ fun xs vs a F1 H1 h1 E1 g1 ha r1 => h1 F1 H1 σ E1 _ fun y w F2 H2 h2 E2 g2 r2 => by
    obtain ⟨n, rfl, n1, n2, n3, hp⟩ := h2
    refine ⟨a, n, vs, rfl, Rp.int_iff.mp r2, g2.h _ _ ha, by omega, by omega, by rw [← r1.length]; exact sz1 n3, fun p hp' => ?_⟩
    exact q _ _ p F2 _ hp (E2.allocH _ hp') ((g1.trans g2).trans (Gr.allocH hp')) ((g1.trans g2).h.back hp') (E2.fh.back hp') upd_same (RpAll.rep (RpAll.mono g2.f xs r1) _)
theorem el_listOf (h : Es B ta env PL) : El B (tCB (rListOf K) (tCons ta tNil)) env PL := fun F H σ E Q q => h F H σ E _ fun xs vs a F1 H1 h1 E1 g1 ha r1 =>
  ⟨a, vs, rfl, .inl (SqL.of ha), fun l hl => q xs vs l F1 _ h1 (E1.allocH _ hl) (g1.trans (Gr.allocH hl)) (g1.h.back hl) (E1.fh.back hl) upd_same r1⟩
theorem el_revL (h : Es B ta env fun xs => PL xs.reverse) : El B (tRevL K ta) env PL := fun F H σ E Q q => h F H σ E _ fun xs vs a F1 H1 h1 E1 g1 ha r1 =>
  ⟨a, vs, rfl, SqL.of ha, fun l hl => q _ _ l F1 _ h1 (E1.allocH _ hl) (g1.trans (Gr.allocH hl)) (g1.h.back hl) (E1.fh.back hl) upd_same r1.reverse⟩

theorem RpAll.atI {H : Hp} {xs : List Dt} {vs : List V} {i : Int} {d : Dt} (r : RpAll H xs vs) (h : L2.atI xs i = some d) : ∃ v, L2.atI vs i = some v ∧ Rp H d v := by
  unfold L2.atI at h ⊢
  rw [← r.length]
  cases e : ixN xs.length i with
  | none => rw [e] at h; cases h
  | some j =>
    rw [e] at h
    exact r.get h
/-- xs[i] -/
theorem ev_ixL (h : Es B ta env fun xs => Ev B false tb env fun y => ∃ (i : Int) (d : Dt), y = .int i ∧ L2.atI xs i = some d ∧ P d) : Ev B m (tOp (rIxL K) ta tb) env P := fun F H σ E Q q =>
  h F H σ E _ fun xs vs a F1 H1 h1 E1 g1 ha r1 => h1 F1 H1 σ E1 _ fun y w F2 H2 h2 E2 g2 r2 => by
    obtain ⟨i, d, rfl, hi, hp⟩ := h2
    obtain ⟨v, hv, rv⟩ := r1.atI hi
    exact ⟨a, vs, i, v, rfl, Rp.int_iff.mp r2, SqL.of (g2.h _ _ ha), hv, q d v F2 H2 hp E2 (g1.trans g2) (Rp.sel E2.fh (Rp.mono g2.f d rv))⟩
theorem ev_ixT (h : Ev B m ta env fun x => Ev B false tb env fun y => ∃ (xs : List Dt) (i : Int) (d : Dt), x = .tup xs ∧ y = .int i ∧ L2.atI xs i = some d ∧ P d) : Ev B m (tOp (rIxT K) ta tb) env P :=
  ev_op2 h fun dx dy x y F H σ Q E rx ry hp k => by
    obtain ⟨xs, i, d, rfl, rfl, hi, hp⟩ := hp
    obtain ⟨a, vs, rfl, h1, h2⟩ := Rp.tup_iff.mp rx
    obtain ⟨v, hv, rv⟩ := h2.atI hi
    exact ⟨a, vs, i, v, rfl, Rp.int_iff.mp ry, SqT.of (ex_sel E.fh _ _ h1), hv, k d v F H hp E (Gr.refl F H) rv⟩
theorem ev_ixS (h : Ev B false ta env fun x => Ev B false tb env fun y => ∃ (xs : List Nat) (i : Int) (c : Nat), x = .str xs ∧ y = .int i ∧ xs.length ≤ 1000000 ∧ L2.atI xs i = some c ∧ P (.str [c])) : Ev B m (tOp rIxS ta tb) env P :=
  ev_op2 h fun dx dy x y F H σ Q E rx ry hp k => by
    obtain ⟨xs, i, c, rfl, rfl, hl, hi, hp⟩ := hp
    exact ⟨S xs, i, c, Rp.str_iff.mp rx, Rp.int_iff.mp ry, by rw [S_len]; exact sz1 hl, hi, k _ _ F H hp E (Gr.refl F H) (Rp.str_iff.mpr rfl)⟩

/-! slices -/
def Eo (B : Bs) (to : TO) (env : List Sl) (P : Option Int → Prop) : Prop :=
  ∀ F H σ, EnvOk B F H σ env → ∀ Q : Option Int → Hp → Prop, (∀ o F' H', P o → EnvOk B F' H' σ env → Gr F H F' H' → Q o H') → to σ H Q
theorem eo_none {P : Option Int → Prop} (h : P none) : Eo B tNoPart env P := fun F H σ E Q q => q none F H h E (Gr.refl F H)
theorem eo_some {P : Option Int → Prop} (h : Ev B false te env fun d => ∃ i, d = .int i ∧ P (some i)) : Eo B (tPart te) env P := fun F H σ E Q q => h F H σ E _ fun d v F1 H1 h1 E1 g1 r1 => by
  obtain ⟨i, rfl, hp⟩ := h1
  exact ⟨i, Rp.int_iff.mp r1, q _ F1 H1 hp E1 g1⟩
theorem ev_slS {tl th : TO} (h : Ev B false ta env fun x => Eo B tl env fun l => Eo B th env fun u => ∃ z, x = .str z ∧ z.length ≤ 1000000 ∧ P (.str (cutL z l u))) : Ev B m (tSl rSlS ta tl th) env P := fun F H σ E Q q =>
  h F H σ E _ fun d v F1 H1 h1 E1 g1 r1 => h1 F1 H1 σ E1 _ fun l F2 H2 h2 E2 g2 => h2 F2 H2 σ E2 _ fun u F3 H3 h3 E3 g3 => by
    obtain ⟨z, rfl, hz, hp⟩ := h3
    refine ⟨S z, Rp.str_iff.mp r1, by rw [S_len]; exact sz1 hz, ?_⟩
    refine q _ _ F3 H3 hp E3 ((g1.trans g2).trans g3) (Rp.str_iff.mpr ?_)
    unfold cutS cutL
    rw [S_len]
    rfl
theorem el_slL {tl th : TO} (h : Es B ta env fun xs => Eo B tl env fun l => Eo B th env fun u => PL (cutL xs l u)) : El B (tSl (rSlL K) ta tl th) env PL := fun F H σ E Q q =>
  h F H σ E _ fun xs vs a F1 H1 h1 E1 g1 ha r1 => h1 F1 H1 σ E1 _ fun l F2 H2 h2 E2 g2 => h2 F2 H2 σ E2 _ fun u F3 H3 h3 E3 g3 => by
    refine ⟨a, vs, rfl, SqL.of (g3.h _ _ (g2.h _ _ ha)), fun p hp => ?_⟩
    have g := (g1.trans g2).trans g3
    refine q _ _ p F3 _ h3 (E3.allocH _ hp) (g.trans (Gr.allocH hp)) (g.h.back hp) (E3.fh.back hp) upd_same ?_
    unfold cutV cutL
    rw [← r1.length]
    exact ((RpAll.mono (g2.trans g3).f xs r1).drop _).take _

/-! built-in calls -/
theorem ev_lenS (h : Ev B false ta env fun x => ∃ z, x = .str z ∧ z.length ≤ 1000000 ∧ P (.int z.length)) : Ev B m (tCB rLenS (tCons ta tNil)) env P := fun F H σ E Q q => h F H σ E _ fun d v F1 H1 h1 E1 g1 r1 => by
  obtain ⟨z, rfl, hz, hp⟩ := h1
  refine ⟨S z, by rw [Rp.str_iff.mp r1], by rw [S_len]; exact sz1 hz, ?_⟩
  rw [S_len]
  exact q _ _ F1 H1 hp E1 g1 (Rp.int_iff.mpr rfl)
def LenP (P : Dt → Prop) : Dt → Prop
  | .list xs => P (.int xs.length)
  | .tup xs => P (.int xs.length)
  | _ => False
theorem ev_lenL (h : Ev B false ta env (LenP P)) : Ev B m (tCB (rLenL K) (tCons ta tNil)) env P := fun F H σ E Q q => h F H σ E _ fun d v F1 H1 h1 E1 g1 r1 => by
  cases d with
  | list xs =>
    obtain ⟨a, vs, rfl, ha, hr⟩ := Rp.list_iff.mp r1
    refine ⟨a, vs, rfl, .inl (SqL.of ha), ?_⟩
    rw [← hr.length]
    exact q _ _ F1 H1 h1 E1 g1 (Rp.int_iff.mpr rfl)
  | tup xs =>
    obtain ⟨a, vs, rfl, ha, hr⟩ := Rp.tup_iff.mp r1
    refine ⟨a, vs, rfl, .inr (SqT.of ha), ?_⟩
    rw [← hr.length]
    exact q _ _ F1 H1 h1 E1 g1 (Rp.int_iff.mpr rfl)
  | _ => exact h1.elim
/-- the deck's length -/
theorem ev_abs (h : Ev B false ta env fun x => ∃ i : Int, x = .int i ∧ P (.int (if i < 0 then -i else i))) : Ev B m (tCB rAbs (tCons ta tNil)) env P := fun F H σ E Q q => h F H σ E _ fun d v F1 H1 h1 E1 g1 r1 => by
  obtain ⟨i, rfl, hp⟩ := h1
  exact ⟨i, by rw [Rp.int_iff.mp r1], q _ _ F1 H1 hp E1 g1 (Rp.int_iff.mpr rfl)⟩
theorem ev_int1 (h : Ev B false ta env fun x => (∃ i : Int, x = .int i ∧ P (.int i)) ∨ ∃ b : Bool, x = .bl b ∧ P (.int (if b then 1 else 0))) : Ev B m (tCB rInt1 (tCons ta tNil)) env P := fun F H σ E Q q => h F H σ E _ fun d v F1 H1 h1 E1 g1 r1 => by
  rcases h1 with ⟨i, rfl, hp⟩ | ⟨b, rfl, hp⟩
  · exact .inl ⟨i, by rw [Rp.int_iff.mp r1], q _ _ F1 H1 hp E1 g1 (Rp.int_iff.mpr rfl)⟩
  · exact .inr ⟨b, by rw [Rp.bl_iff.mp r1], q _ _ F1 H1 hp E1 g1 (Rp.int_iff.mpr rfl)⟩
theorem ev_max2 (h : Ev B false ta env fun x => Ev B false tb env fun y => ∃ i j : Int, x = .int i ∧ y = .int j ∧ P (.int (max i j))) : Ev B m (tCB rMax2' (tCons ta (tCons tb tNil))) env P := fun F H σ E Q q =>
  h F H σ E _ fun d v F1 H1 h1 E1 g1 r1 => h1 F1 H1 σ E1 _ fun d2 v2 F2 H2 h2 E2 g2 r2 => by
    obtain ⟨i, j, rfl, rfl, hp⟩ := h2
    refine ⟨i, j, by rw [Rp.int_iff.mp r1, Rp.int_iff.mp r2], ?_⟩
    have e : (if j > i then j else i) = max i j := by split <;> omega
    rw [e]
    exact q _ _ F2 H2 hp E2 (g1.trans g2) (Rp.int_iff.mpr rfl)
theorem ev_min2 (h : Ev B false ta env fun x => Ev B false tb env fun y => ∃ i j : Int, x = .int i ∧ y = .int j ∧ P (.int (min i j))) : Ev B m (tCB rMin2' (tCons ta (tCons tb tNil))) env P := fun F H σ E Q q =>
  h F H σ E _ fun d v F1 H1 h1 E1 g1 r1 => h1 F1 H1 σ E1 _ fun d2 v2 F2 H2 h2 E2 g2 r2 => by
    obtain ⟨i, j, rfl, rfl, hp⟩ := h2
    refine ⟨i, j, by rw [Rp.int_iff.mp r1, Rp.int_iff.mp r2], ?_⟩
    have e : (if j < i then j else i) = min i j := by split <;> omega
    rw [e]
    exact q _ _ F2 H2 hp E2 (g1.trans g2) (Rp.int_iff.mpr rfl)
theorem ev_sum (h : Ev B false ta env fun x => ∃ ns : List Int, x = .list (ns.map .int) ∧ P (.int ns.sum)) : Ev B m (tCB (rSum K) (tCons ta tNil)) env P := fun F H σ E Q q => h F H σ E _ fun d v F1 H1 h1 E1 g1 r1 => by
  obtain ⟨ns, rfl, hp⟩ := h1
  obtain ⟨a, vs, rfl, ha, hr⟩ := Rp.list_iff.mp r1
  rw [RpAll.ints_iff.mp hr] at ha
  exact ⟨a, ns, rfl, SqL.of ha, q _ _ F1 H1 hp E1 g1 (Rp.int_iff.mpr rfl)⟩
theorem ev_all (h : Ev B false ta env fun x => ∃ bs : List Bool, x = .list (bs.map .bl) ∧ P (.bl (bs.all id))) : Ev B m (tCB (rAll K) (tCons ta tNil)) env P := fun F H σ E Q q => h F H σ E _ fun d v F1 H1 h1 E1 g1 r1 => by
  obtain ⟨ns, rfl, hp⟩ := h1
  obtain ⟨a, vs, rfl, ha, hr⟩ := Rp.list_iff.mp r1
  rw [RpAll.bls_iff.mp hr] at ha
  exact ⟨a, ns, rfl, SqL.of ha, q _ _ F1 H1 hp E1 g1 (Rp.bl_iff.mpr rfl)⟩
theorem ev_any (h : Ev B false ta env fun x => ∃ bs : List Bool, x = .list (bs.map .bl) ∧ P (.bl (bs.any id))) : Ev B m (tCB (rAny K) (tCons ta tNil)) env P := fun F H σ E Q q => h F H σ E _ fun d v F1 H1 h1 E1 g1 r1 => by
  obtain ⟨ns, rfl, hp⟩ := h1
  obtain ⟨a, vs, rfl, ha, hr⟩ := Rp.list_iff.mp r1
  rw [RpAll.bls_iff.mp hr] at ha
  exact ⟨a, ns, rfl, SqL.of ha, q _ _ F1 H1 hp E1 g1 (Rp.bl_iff.mpr rfl)⟩
theorem ev_maxL (h : Ev B false ta env fun x => ∃ ns : List Int, x = .list (ns.map .int) ∧ 0 < ns.length ∧ ∀ k, k ∈ ns → (∀ y ∈ ns, y ≤ k) → P (.int k)) : Ev B m (tCB (rMax K) (tCons ta tNil)) env P := fun F H σ E Q q => h F H σ E _ fun d v F1 H1 h1 E1 g1 r1 => by
  obtain ⟨ns, rfl, h0, hp⟩ := h1
  obtain ⟨a, vs, rfl, ha, hr⟩ := Rp.list_iff.mp r1
  rw [RpAll.ints_iff.mp hr] at ha
  exact ⟨a, ns, rfl, SqL.of ha, h0, fun k hk hle => q _ _ F1 H1 (hp k hk hle) E1 g1 (Rp.int_iff.mpr rfl)⟩
theorem ev_minL (h : Ev B false ta env fun x => ∃ ns : List Int, x = .list (ns.map .int) ∧ 0 < ns.length ∧ ∀ k, k ∈ ns → (∀ y ∈ ns, k ≤ y) → P (.int k)) : Ev B m (tCB (rMin K) (tCons ta tNil)) env P := fun F H σ E Q q => h F H σ E _ fun d v F1 H1 h1 E1 g1 r1 => by
  obtain ⟨ns, rfl, h0, hp⟩ := h1
  obtain ⟨a, vs, rfl, ha, hr⟩ := Rp.list_iff.mp r1
  rw [RpAll.ints_iff.mp hr] at ha
  exact ⟨a, ns, rfl, SqL.of ha, h0, fun k hk hle => q _ _ F1 H1 (hp k hk hle) E1 g1 (Rp.int_iff.mpr rfl)⟩
theorem el_sortedI (h : Ev B false ta env fun x => ∃ ns : List Int, x = .list (ns.map .int) ∧ ∀ ns' : List Int, ns'.Perm ns → ns'.Pairwise (· ≤ ·) → PL (ns'.map .int)) : El B (tCB (rSortedI K) (tCons ta tNil)) env PL := fun F H σ E Q q => h F H σ E _ fun d v F1 H1 h1 E1 g1 r1 => by
  obtain ⟨ns, rfl, hp⟩ := h1
  obtain ⟨a, vs, rfl, ha, hr⟩ := Rp.list_iff.mp r1
  rw [RpAll.ints_iff.mp hr] at ha
  exact ⟨a, ns, rfl, SqL.of ha, fun ns' p k1 k2 hl => q _ _ p F1 _ (hp ns' k1 k2) (E1.allocH _ hl) (g1.trans (Gr.allocH hl)) (g1.h.back hl) (E1.fh.back hl) upd_same (RpAll.ints ns')⟩
/-- sep.join(list of texts) -/
theorem join_S (s : List Nat) (ys : List (List Nat)) : Txt.join (S s) (ys.map S) = S (TL.joinL s ys) := by
  rw [TL.join_eq]
  refine TL.ext_tl ?_
  rw [TL.tl_join]
  have e : (ys.map S).map TL.tl = ys := by
    rw [List.map_map]
    have : TL.tl ∘ S = id := by funext x; rfl
    rw [this, List.map_id]
  rw [e]
  rfl
theorem joinL_nil : ∀ ys : List (List Nat), TL.joinL [] ys = ys.flatten
  | [] => rfl
  | [x] => by simp [TL.joinL]
  | x :: y :: r => by
    show x ++ ([] ++ TL.joinL [] (y :: r)) = _
    rw [joinL_nil (y :: r)]
    simp
theorem ev_join {to : TA} (h : Ev B false ta env fun x => ∃ s, x = .str s ∧ Ea B false to env fun ds => ∃ ys : List (List Nat), ds = [.list (ys.map .str)] ∧ (ys.map List.length).sum + ys.length * s.length ≤ 1000000 ∧ P (.str (TL.joinL s ys))) :
    Ev B m (tBM K "str" (rJoin K) ta to) env P := fun F H σ E Q q => h F H σ E _ fun d v F1 H1 h1 E1 g1 r1 => by
  obtain ⟨s, rfl, h1⟩ := h1
  rw [Rp.str_iff.mp r1]
  refine ⟨rfl, h1 F1 H1 σ E1 _ fun ds vs F2 H2 h2 E2 g2 r2 => ?_⟩
  obtain ⟨ys, rfl, hz, hp⟩ := h2
  obtain ⟨v, r, rfl, h3, h4⟩ := RpAll.cons_iff.mp r2
  rw [RpAll.nil_iff.mp h4]
  obtain ⟨a, vs, rfl, ha, hr⟩ := Rp.list_iff.mp h3
  rw [RpAll.strs_iff.mp hr] at ha
  refine ⟨S s, a, ys.map S, rfl, rfl, .inl (SqL.of ha), ?_, ?_⟩
  · rw [List.map_map, List.length_map, S_len]
    have : (fun x : Str => x.length) ∘ S = List.length := by funext x; exact S_len x
    rw [this]
    omega
  · rw [join_S]
    exact q _ _ F2 H2 hp E2 (g1.trans g2) (Rp.str_iff.mpr rfl)
/-- x in list or tuple of ints, of texts -/
def InP (neg : Bool) (P : Dt → Prop) (x y : Dt) : Prop :=
  (∃ (i : Int) (ns : List Int), x = .int i ∧ (y = .list (ns.map .int) ∨ y = .tup (ns.map .int)) ∧ P (.bl (neg ^^ decide (i ∈ ns)))) ∨
  (∃ (i : List Nat) (ns : List (List Nat)), x = .str i ∧ (y = .list (ns.map .str) ∨ y = .tup (ns.map .str)) ∧ P (.bl (neg ^^ decide (i ∈ ns))))
theorem inV_int (i : Int) (ns : List Int) : inV (.int i) (ns.map V.int) = decide (i ∈ ns) := by
  unfold inV
  rw [List.any_map]
  induction ns with
  | nil => simp
  | cons n ns ih =>
    rw [List.any_cons, ih]
    show (n == i || decide (i ∈ ns)) = _
    by_cases e : i = n
    · subst e; simp
    · have e' : ¬ n = i := fun z => e z.symm
      simp [e, e']
theorem inV_str (i : List Nat) (ns : List (List Nat)) : inV (.str (S i)) ((ns.map S).map V.str) = decide (i ∈ ns) := by
  unfold inV
  rw [List.map_map, List.any_map]
  induction ns with
  | nil => simp
  | cons n ns ih =>
    rw [List.any_cons, ih]
    show (S n == S i || decide (i ∈ ns)) = _
    by_cases e : i = n
    · subst e; simp
    · have e' : ¬ S n = S i := fun z => e (S_inj z).symm
      simp [e, e']
theorem flat_int (ns : List Int) : (ns.map V.int).all flatV = true := by
  rw [List.all_map, List.all_eq_true]
  intro x _
  rfl
theorem flat_str (ns : List Str) : (ns.map V.str).all flatV = true := by
  rw [List.all_map, List.all_eq_true]
  intro x _
  rfl
theorem ev_in {neg : Bool} (h : Ev B false ta env fun x => Ev B false tb env fun y => InP neg P x y) : Ev B m (tOp (rIn K neg) ta tb) env P :=
  ev_op2 h fun dx dy x y F H σ Q E rx ry hp k => by
    have fin : ∀ {b : Bool}, P (.bl (neg ^^ b)) → Q (.bl (if neg = true then !b else b)) H := fun {b} z => by
      have := k _ _ F H z E (Gr.refl F H) (Rp.bl_iff.mpr rfl)
      cases neg with
      | true => simpa using this
      | false => simpa using this
    rcases hp with ⟨i, ns, rfl, hy, hp⟩ | ⟨i, ns, rfl, hy, hp⟩
    · rw [Rp.int_iff.mp rx]
      rcases hy with rfl | rfl
      · obtain ⟨a, vs, rfl, ha, hr⟩ := Rp.list_iff.mp ry
        rw [RpAll.ints_iff.mp hr] at ha
        refine ⟨a, _, rfl, .inl (SqL.of ha), rfl, flat_int ns, ?_⟩
        rw [inV_int]
        exact fin hp
      · obtain ⟨a, vs, rfl, ha, hr⟩ := Rp.tup_iff.mp ry
        rw [RpAll.ints_iff.mp hr] at ha
        refine ⟨a, _, rfl, .inr (SqT.of ha), rfl, flat_int ns, ?_⟩
        rw [inV_int]
        exact fin hp
    · rw [Rp.str_iff.mp rx]
      rcases hy with rfl | rfl
      · obtain ⟨a, vs, rfl, ha, hr⟩ := Rp.list_iff.mp ry
        rw [RpAll.strs_iff.mp hr] at ha
        refine ⟨a, _, rfl, .inl (SqL.of ha), rfl, flat_str _, ?_⟩
        rw [inV_str]
        exact fin hp
      · obtain ⟨a, vs, rfl, ha, hr⟩ := Rp.tup_iff.mp ry
        rw [RpAll.strs_iff.mp hr] at ha
        refine ⟨a, _, rfl, .inr (SqT.of ha), rfl, flat_str _, ?_⟩
        rw [inV_str]
        exact fin hp

/-! ### calls of defs -/
theorem ev_call {n : Nat} {R : Rd1} {X : XK} {t : TA} (h : Ea B true t env fun ds => ds.length = n ∧ R ds P) : Ev B m (tCall (spD n R) [] X t) env P := ev_weak fun F H σ E Q q => h F H σ E _ fun ds vs F1 H1 h1 E1 g1 r1 => by
  rw [List.append_nil]
  exact ⟨F1, ds, P, h1.1, E1.fh, r1, h1.2, fun d v G' H' hp e1 e2 e3 e4 r => q d v G' H' hp (E1.gr ⟨e1, e4, e2⟩ e3) (g1.trans ⟨e1, e4, e2⟩) r⟩
theorem ev_callW {n : Nat} {R : Rd1} {X : XK} {t : TA} (h : Ea B false t env fun ds => ds.length = n ∧ R ds P) : Ev B false (tCall (spD n R) [] X t) env P := fun F H σ E Q q => h F H σ E _ fun ds vs F1 H1 h1 E1 g1 r1 => by
  rw [List.append_nil]
  exact ⟨H1, ds, P, h1.1, Ex.refl H1, r1, h1.2, fun d v G' H' hp e1 e2 e3 e4 r => q d v F1 H' hp (E1.gr (Gr.hOnly e4) (E1.fh.trans e4)) (g1.trans (Gr.hOnly e4)) (Rp.mono e3 d r)⟩
theorem el_call {n : Nat} {R : RdL} {X : XK} {t : TA} (h : Ea B true t env fun ds => ds.length = n ∧ R ds PL) : El B (tCall (spO n R) [] X t) env PL := fun F H σ E Q q => h F H σ E _ fun ds vs F1 H1 h1 E1 g1 r1 => by
  rw [List.append_nil]
  exact ⟨F1, ds, PL, h1.1, E1.fh, r1, h1.2, fun xs ws p G' H' hp e1 e2 e3 e4 p0 p1 p2 r => q xs ws p G' H' hp (E1.gr ⟨e1, e4, e2⟩ e3) (g1.trans ⟨e1, e4, e2⟩) (g1.h.back p0) p1 p2 r⟩
end

/-! ### comprehensions -/
section
variable {B : Bs} {env : List Sl} {PL : List Dt → Prop} {te tl : TE} {tt : TT} {K : PySem.W.Frag}
/-- what a comprehension's state bears: the list made so far at D -/
def CW (B : Bs) (env : List Sl) (σ : L2.St) (F1 H1 : Hp) (D : Addr) (I : List Dt → Prop) (H : Hp) : Prop :=
  ∃ F acc vs, EnvOk B F H σ env ∧ Gr F1 H1 F H ∧ F D = none ∧ H D = some (.lst vs) ∧ RpAll F acc vs ∧ I acc
theorem EnvOk.comp {B : Bs} {F H : Hp} {σ : L2.St} {env : List Sl} (E : EnvOk B F H σ env) {j : Nat} {x : V} {d : Dt} (r : Rp F d x) : EnvOk B F H ((wipe σ [j]).set j (some x)) (env.set j (.dat d)) := by
  show EnvOk B F H ((σ.set j none).set j (some x)) (env.set j (.dat d))
  rw [List.set_set]
  exact E.setDat r
/-- a list that is no slot's and not frozen is changed -/
theorem EnvOk.touch {F1 H1 F H : Hp} {σ : L2.St} {D : Addr} {o : HO} (E1 : EnvOk B F1 H1 σ env) (E : EnvOk B F H σ env) (hD : H1 D = none) (dn : F D = none) : EnvOk B F (upd H D o) σ env :=
  ⟨E.len, E.g, E.gf, E.fh.put dn, E.hh.put (E1.hh.back hD), E.gho, fun i s u e1 e2 => by
    have q := E.sl i s u e1 e2
    cases s with
    | no => trivial
    | dat d => exact q
    | own zs =>
      obtain ⟨p, ws, f1, f2, f3, f4, f5⟩ := q
      refine ⟨p, ws, f1, f2, f3, ?_, f5⟩
      have hne : p ≠ D := fun z => by
        obtain ⟨p', ws', k1, k2, k3, k4, k5⟩ := E1.own e1
        rw [e2, f1] at k1
        cases k1
        rw [z, hD] at k4
        cases k4
      rw [upd_ne hne]
      exact f4, E.sep⟩
theorem Gr.touch {F1 H1 F H : Hp} {D : Addr} {o : HO} (g : Gr F1 H1 F H) (hD : H1 D = none) : Gr F1 H1 F (upd H D o) := ⟨g.f, g.h.put hD, g.n⟩
theorem cw_turn {F1 H1 : Hp} {σ : L2.St} {Dl : Addr} {I I' : List Dt → Prop} {H : Hp} {j : Nat} {x : V} {d : Dt} (E1 : EnvOk B F1 H1 σ env) (hD : H1 Dl = none) (h : CW B env σ F1 H1 Dl I H) (hr : ∀ F, Gr F1 H1 F H → Rp F d x)
    (hj : ∀ xs, env[j]? ≠ some (.own xs))
    (hs : ∀ acc, I acc → Et B tt (env.set j (.dat d)) (Ev B true te (env.set j (.dat d)) fun y => acc.length < 1000000 ∧ I' (acc ++ [y])) (I' acc)) :
    tt ((wipe σ [j]).set j (some x)) H fun b H3 => if b = true then te ((wipe σ [j]).set j (some x)) H3 fun y H4 => ∃ acc, H4 Dl = some (.lst acc) ∧ acc.length < sizeLine ∧ CW B env σ F1 H1 Dl I' (upd H4 Dl (.lst (acc ++ [y]))) else CW B env σ F1 H1 Dl I' H3 := by
  obtain ⟨F, acc, vs, E, g, d1, hd, ra, hi⟩ := h
  have Ec := E.comp (j := j) (hr F g)
  have dno : ∀ {F4 H4 : Hp}, Gr F H F4 H4 → F4 Dl = none := fun {F4 H4} gg => by
    cases e : F4 Dl with
    | none => rfl
    | some u => rw [gg.n Dl u e d1] at hd; cases hd
  refine hs acc hi F H _ Ec _ (fun hv F3 H3 E3 g3 => ?_) (fun hi' F3 H3 E3 g3 => ?_)
  · show te _ H3 _
    refine hv F3 H3 _ E3 _ fun y w F4 H4 hy E4 g4 r4 => ?_
    have gg := g3.trans g4
    exact ⟨vs, gg.h _ _ hd, sz2 (by rw [← ra.length]; exact hy.1), F4, acc ++ [y], vs ++ [w], E1.touch (E.gr gg E4.fh) hD (dno gg), (g.trans gg).touch hD, dno gg, upd_same, (RpAll.mono gg.f acc ra).append (RpAll.cons r4 RpAll.nil), hy.2⟩
  · exact ⟨F3, acc, vs, E.gr g3 E3.fh, g.trans g3, dno g3, g3.h _ _ hd, RpAll.mono g3.f acc ra, hi'⟩
/-- one turn, by data -/
def CT (B : Bs) (tt : TT) (te : TE) (env : List Sl) (j : Nat) (INV : Nat → List Dt → Prop) (i : Nat) (d : Dt) : Prop :=
  ∀ acc, INV i acc → Et B tt (env.set j (.dat d)) (Ev B true te (env.set j (.dat d)) fun y => acc.length < 1000000 ∧ INV (i + 1) (acc ++ [y])) (INV (i + 1) acc)
theorem wipe_turn (σ : L2.St) (j : Nat) (x : V) : wipe ((wipe σ [j]).set j (some x)) [j] = wipe σ [j] := by
  show ((σ.set j none).set j (some x)).set j none = σ.set j none
  rw [List.set_set, List.set_set]
theorem cw_start {F1 H1 : Hp} {σ : L2.St} {Dl : Addr} {I : List Dt → Prop} (E1 : EnvOk B F1 H1 σ env) (hD : H1 Dl = none) (h : I []) : CW B env σ F1 H1 Dl I (upd H1 Dl (.lst [])) :=
  ⟨F1, [], [], E1.allocH _ hD, Gr.allocH hD, E1.fh.back hD, upd_same, RpAll.nil, h⟩
/-- over a list -/
theorem el_lcL {j : Nat} (hj : ∀ xs, env[j]? ≠ some (.own xs))
    (h : Es B tl env fun xs => ∃ INV : Nat → List Dt → Prop, INV 0 [] ∧ (∀ i d, xs[i]? = some d → CT B tt te env j INV i d) ∧ ∀ acc, INV xs.length acc → PL acc) : El B (tLc (iList K tl) (gName j) tt te [j]) env PL := fun F H σ E Q q =>
  h F H σ E _ fun xs vs a F1 H1 h1 E1 g1 ha r1 => by
    obtain ⟨INV, i0, it, ie⟩ := h1
    refine ⟨a, rfl, ⟨vs, SqL.of ha⟩, fun D hD => lc_list (xs := vs) (fun i H' => CW B env σ F1 H1 D (INV i) H') (cw_start E1 hD i0) (fun i H' _ ⟨F, acc, ws, E', g, _⟩ => SqL.of (g.h _ _ ha)) (fun i x H' hi p => ?_) (fun H' p => ?_)⟩
    · obtain ⟨d, hd, rd⟩ := r1.get' hi
      exact ⟨wipe_turn σ j x, cw_turn E1 hD p (fun F g => Rp.mono g.f d rd) hj (it i d hd)⟩
    · obtain ⟨F2, acc, ws, E2, g2, d2, hd2, r2, hi⟩ := p
      exact q acc ws D F2 H' (ie acc (by rw [r1.length]; exact hi)) E2 (g1.trans g2) (g1.h.back hD) d2 hd2 r2
/-- over a range -/
theorem el_lcR1 {j : Nat} {ta : TA} (hj : ∀ xs, env[j]? ≠ some (.own xs))
    (h : Ea B false ta env fun ds => ∃ n : Int, ds = [.int n] ∧ -1000000 ≤ n ∧ n ≤ 1000000 ∧ ∃ INV : Nat → List Dt → Prop, INV 0 [] ∧ (∀ i : Nat, i < n.toNat → CT B tt te env j INV i (.int i)) ∧ ∀ acc, INV n.toNat acc → PL acc) : El B (tLc (iRng1 ta) (gName j) tt te [j]) env PL := fun F H σ E Q q =>
  h F H σ E _ fun ds vs F1 H1 h1 E1 g1 r1 => by
    obtain ⟨n, rfl, n1, n2, INV, i0, it, ie⟩ := h1
    obtain ⟨v, r, rfl, h3, h4⟩ := RpAll.cons_iff.mp r1
    rw [RpAll.nil_iff.mp h4, Rp.int_iff.mp h3]
    refine ⟨n, rfl, by omega, by omega, fun D hD => lc_range (lo := 0) (n := n.toNat) (fun i H' => CW B env σ F1 H1 D (INV i) H') (cw_start E1 hD i0) (fun i H' hi p => ?_) (fun H' p => ?_)⟩
    · refine ⟨wipe_turn σ j _, cw_turn E1 hD p (fun F g => Rp.int_iff.mpr ?_) hj (it i hi)⟩
      rw [Int.zero_add]
    · obtain ⟨F2, acc, ws, E2, g2, d2, hd2, r2, hi⟩ := p
      exact q acc ws D F2 H' (ie acc hi) E2 (g1.trans g2) (g1.h.back hD) d2 hd2 r2
theorem el_lcR2 {j : Nat} {ta : TA} (hj : ∀ xs, env[j]? ≠ some (.own xs))
    (h : Ea B false ta env fun ds => ∃ lo n : Int, ds = [.int lo, .int n] ∧ (-1000000 ≤ lo ∧ lo ≤ 1000000 ∧ -1000000 ≤ n ∧ n ≤ 1000000) ∧ ∃ INV : Nat → List Dt → Prop, INV 0 [] ∧ (∀ i : Nat, i < (n - lo).toNat → CT B tt te env j INV i (.int (lo + i))) ∧ ∀ acc, INV (n - lo).toNat acc → PL acc) : El B (tLc (iRng2 ta) (gName j) tt te [j]) env PL := fun F H σ E Q q =>
  h F H σ E _ fun ds vs F1 H1 h1 E1 g1 r1 => by
    obtain ⟨lo, n, rfl, hb, INV, i0, it, ie⟩ := h1
    obtain ⟨v, r, rfl, h3, h4⟩ := RpAll.cons_iff.mp r1
    obtain ⟨v2, r2, rfl, h5, h6⟩ := RpAll.cons_iff.mp h4
    rw [RpAll.nil_iff.mp h6, Rp.int_iff.mp h3, Rp.int_iff.mp h5]
    refine ⟨lo, n, rfl, by omega, fun D hD => lc_range (lo := lo) (n := (n - lo).toNat) (fun i H' => CW B env σ F1 H1 D (INV i) H') (cw_start E1 hD i0) (fun i H' hi p => ?_) (fun H' p => ?_)⟩
    · exact ⟨wipe_turn σ j _, cw_turn E1 hD p (fun F g => Rp.int_iff.mpr rfl) hj (it i hi)⟩
    · obtain ⟨F2, acc, ws, E2, g2, d2, hd2, r2, hi⟩ := p
      exact q acc ws D F2 H' (ie acc hi) E2 (g1.trans g2) (g1.h.back hD) d2 hd2 r2
theorem et_yes {PT PF : Prop} (h : PT) : Et B tYes env PT PF := fun F H σ E Q q1 q2 => q1 h F H E (Gr.refl F H)
end

/-! ### the text's signs walked -/
theorem its_lc {x : Str} {g : TG} {tt : TT} {te : TE} {vs : List Nat} {σ : L2.St} {H1 : Hp} {D : Addr} {Qd : Hp → Prop} (Pv : Nat → Hp → Prop) (h0 : Pv 0 (upd H1 D (.lst [])))
    (hs : ∀ i c H, x.cps[i]? = some c → Pv i H → g (.str ⟨#[c]⟩) (wipe σ vs) H fun σ2 H2 => wipe σ2 vs = wipe σ vs ∧ tt σ2 H2 fun b H3 =>
      if b = true then te σ2 H3 fun y H4 => ∃ acc, H4 D = some (.lst acc) ∧ acc.length < sizeLine ∧ Pv (i + 1) (upd H4 D (.lst (acc ++ [y]))) else Pv (i + 1) H3) (hd : ∀ H, Pv x.cps.size H → Qd H) :
    ∃ W : Nat → Nat → Hp → Prop, (∃ m, W 0 m (upd H1 D (.lst []))) ∧ ∀ i m H, W i m H →
      ((Its x).stop i H ∧ Qd H) ∨ ((Its x).go i H ∧ ∃ Nx : Hp → Prop, (∀ H', Nx H' → ∃ m', m' < m ∧ W (i + 1) m' H') ∧ ∀ v H', (Its x).yld i H v H' → g v (wipe σ vs) H' fun σ2 H2 => wipe σ2 vs = wipe σ vs ∧ tt σ2 H2 fun b H3 =>
        if b = true then te σ2 H3 fun y H4 => ∃ acc, H4 D = some (.lst acc) ∧ acc.length < sizeLine ∧ Nx (upd H4 D (.lst (acc ++ [y]))) else Nx H3) := by
  refine ⟨fun i m H => m = x.cps.size - i ∧ i ≤ x.cps.size ∧ Pv i H, ⟨x.cps.size, by simp, Nat.zero_le _, h0⟩, ?_⟩
  rintro i m H ⟨rfl, hi, p⟩
  by_cases hlt : i < x.cps.size
  · refine .inr ⟨hlt, Pv (i + 1), fun H' p' => ⟨x.cps.size - (i + 1), by omega, rfl, hlt, p'⟩, fun v H' y => ?_⟩
    obtain ⟨e, c, hc, ev⟩ := y
    subst e ev
    exact hs i c _ hc p
  · have e : i = x.cps.size := by omega
    subst e
    exact .inl ⟨Nat.le_refl _, hd H p⟩
section
variable {B : Bs} {env : List Sl} {PL : List Dt → Prop} {te tl : TE} {tt : TT} {K : PySem.W.Frag}
theorem el_lcS {j : Nat} (hj : ∀ xs, env[j]? ≠ some (.own xs))
    (h : Ev B false tl env fun x => ∃ z : List Nat, x = .str z ∧ ∃ INV : Nat → List Dt → Prop, INV 0 [] ∧ (∀ i c, z[i]? = some c → CT B tt te env j INV i (.str [c])) ∧ ∀ acc, INV z.length acc → PL acc) : El B (tLc (iStr tl) (gName j) tt te [j]) env PL := fun F H σ E Q q =>
  h F H σ E _ fun d v F1 H1 h1 E1 g1 r1 => by
    obtain ⟨z, rfl, INV, i0, it, ie⟩ := h1
    have hz : (S z).cps.size = z.length := by show z.toArray.size = _; simp
    refine ⟨S z, Rp.str_iff.mp r1, fun D hD => its_lc (x := S z) (fun i H' => CW B env σ F1 H1 D (INV i) H') (cw_start E1 hD i0) (fun i c H' hi p => ?_) (fun H' p => ?_)⟩
    · have hi' : z[i]? = some c := by
        have : (S z).cps[i]? = z[i]? := by show z.toArray[i]? = _; simp
        rw [← this]; exact hi
      exact ⟨wipe_turn σ j _, cw_turn E1 hD p (fun F g => Rp.str_iff.mpr rfl) hj (it i c hi')⟩
    · obtain ⟨F2, acc, ws, E2, g2, d2, hd2, r2, hi⟩ := p
      rw [hz] at hi
      exact q acc ws D F2 H' (ie acc hi) E2 (g1.trans g2) (g1.h.back hD) d2 hd2 r2
end

/-! ### statements -/
section
variable {B : Bs} {env : List Sl} {te ta : TE} {D : Ends} {t u tb tw : TS} {tt : TT} {K : PySem.W.Frag}
theorem wp_seq (h : Wp B t env (Sq u D)) : Wp B (tSeq t u) env D := h
theorem wp_next (h : Nx B env D.nx) : Wp B tNext env D := h
theorem wp_asg {i : Nat} (h : Ev B true te env fun d => Nx B (env.set i (.dat d)) D.nx) : Wp B (tAsg te (gName i)) env D := fun F H σ E => h F H σ E _ fun d v F' H' hn E' g r => hn F' H' _ (E'.setDat r)
theorem wp_asgO {i : Nat} (h : El B te env fun xs => Nx B (env.set i (.own xs)) D.nx) : Wp B (tAsg te (gName i)) env D := fun F H σ E => h F H σ E _ fun xs vs p F' H' hn E' g h1 h2 h3 r =>
  hn F' H' _ (E'.setOwn (E.hh.back h1) h2 h3 r fun j ys _ hj hs => by
    obtain ⟨p', vs', e1, e2, e3, e4, e5⟩ := E.own hj
    rw [hs] at e1
    cases e1
    rw [h1] at e4
    cases e4)
/-- y = x, x an own list: it is y's from here on -/
theorem wp_move {i j : Nat} {xs : List Dt} (hi : env[i]? = some (.own xs)) (h : Nx B ((env.set i .no).set j (.own xs)) D.nx) : Wp B (tAsg (tVar i) (gName j)) env D := fun F H σ E => by
  obtain ⟨p, vs, h1, h2, h3, h4, h5⟩ := E.own hi
  refine ⟨.ref p, h1, h F H _ ?_⟩
  refine (E.drop i).setOwn h2 h3 h4 h5 fun k ys hk hy hs => ?_
  by_cases e : i = k
  · subst e
    have hl : i < env.length := by simpa using (List.getElem?_eq_some_iff.mp hy).1
    rw [List.getElem?_set_self hl] at hy
    cases hy
  · rw [List.getElem?_set_ne e] at hy
    exact e (E.sep i k xs ys p hi hy h1 hs)
/-- an own list is own no more -/
theorem wp_freeze {i : Nat} {xs : List Dt} (hi : env[i]? = some (.own xs)) (h : Wp B t (env.set i (.dat (.list xs))) D) : Wp B t env D := fun F H σ E => by
  obtain ⟨p, vs, h1, h2, h3, h4, h5⟩ := E.own hi
  have E1 := (E.drop i).freezeP h2 h3 h4 fun k ys hy hs => by
    by_cases e : i = k
    · subst e
      have hl : i < env.length := by simpa using (List.getElem?_eq_some_iff.mp hy).1
      rw [List.getElem?_set_self hl] at hy
      cases hy
    · rw [List.getElem?_set_ne e] at hy
      exact e (E.sep i k xs ys p hi hy h1 hs)
  have r : Rp (upd F p (.lst vs)) (.list xs) (.ref p) := Rp.list_iff.mpr ⟨p, vs, rfl, upd_same, RpAll.mono (Ex.new h3) xs h5⟩
  have E2 := E1.setDat (i := i) r
  rw [List.set_set] at E2
  have hl : i < σ.length := (List.getElem?_eq_some_iff.mp h1).1
  have es : σ.set i (some (.ref p)) = σ := by
    have := (List.getElem?_eq_some_iff.mp h1).2
    rw [← this, List.set_getElem_self]
  rw [es] at E2
  exact h _ H σ E2
theorem wp_drop (h : Ev B false te env fun _ => Nx B env D.nx) : Wp B (tDrop te) env D := fun F H σ E => h F H σ E _ fun d v F' H' hn E' g r => hn F' H' σ E'
theorem wp_ret {Φ : Dt → Prop} (hr : Rt B D.rt Φ) (h : Ev B true te env Φ) : Wp B (tRet te) env D := fun F H σ E => h F H σ E _ fun d v F' H' hp E' g r => hr d v F' H' hp E'.g (fun a o h1 h2 => E'.gf a o h1 h2) E'.fh E'.hh r
/-- an own list, or what has own lists within, is handed back -/
theorem wp_retW {Φ : Dt → Prop} (hr : ∀ d v H', Φ d → Ex B.H0 H' → Rp H' d v → D.rt v H') (h : Ev B false te env Φ) : Wp B (tRet te) env D := fun F H σ E => h F H σ E _ fun d v F' H' hp E' g r => hr d v H' hp E'.hh r
theorem wp_retN {Φ : Dt → Prop} (hr : Rt B D.rt Φ) (h : Φ .non) : Wp B tRetN env D := fun F H σ E => hr .non .non F H h E.g (fun a o h1 h2 => E.gf a o h1 h2) E.fh E.hh (Rp.non_iff.mpr rfl)
theorem wp_retO {i : Nat} {xs : List Dt} {Φ : List Dt → Prop} (hr : RtO B D.rt Φ) (hi : env[i]? = some (.own xs)) (h : Φ xs) : Wp B (tRet (tVar i)) env D := fun F H σ E => by
  obtain ⟨p, vs, h1, h2, h3, h4, h5⟩ := E.own hi
  exact ⟨.ref p, h1, hr xs vs p F H h E.g (fun a o q1 q2 => E.gf a o q1 q2) E.fh E.hh h2 h3 h4 h5⟩
theorem wp_if (h : Et B tt env (Wp B tb env D) (Wp B tw env D)) : Wp B (tIfS tt tb tw) env D := fun F H σ E => h F H σ E _
  (fun hn F' H' E' g => by
    show tb D σ H'
    exact hn F' H' σ E')
  (fun hn F' H' E' g => by
    show tw D σ H'
    exact hn F' H' σ E')
/-- a test with its two answers, each way once -/
theorem wp_ifR (R : Prop) (h : Et B tt env R (¬ R)) (h1 : R → Wp B tb env D) (h2 : ¬ R → Wp B tw env D) : Wp B (tIfS tt tb tw) env D := wp_if (et_imp h h1 h2)
theorem wp_aug {i : Nat} {f : Int → Int → Int} {a : Int} (hi : env[i]? = some (.dat (.int a))) (h : Ev B false te env fun d => ∃ b, d = .int b ∧ Nx B (env.set i (.dat (.int (f a b)))) D.nx) : Wp B (tAug i te (ipI f)) env D := fun F H σ E => by
  obtain ⟨v, h1, h2⟩ := E.dat hi
  rw [Rp.int_iff.mp h2] at h1
  refine ⟨_, h1, h F H σ E _ fun d v F' H' hp E' g r => ?_⟩
  obtain ⟨b, rfl, hn⟩ := hp
  exact ⟨a, b, rfl, Rp.int_iff.mp r, hn F' H' _ (E'.setDat (Rp.int_iff.mpr rfl))⟩
/-- a, b = x, y -/
theorem wp_par {i j : Nat} {ta : TA} (h : Ea B true ta env fun ds => ∃ x y, ds = [x, y] ∧ Nx B ((env.set i (.dat x)).set j (.dat y)) D.nx) : Wp B (tPar i j ta) env D := fun F H σ E => h F H σ E _ fun ds vs F' H' hp E' g r => by
  obtain ⟨x, y, rfl, hn⟩ := hp
  obtain ⟨v, r1, rfl, h3, h4⟩ := RpAll.cons_iff.mp r
  obtain ⟨w, r2, rfl, h5, h6⟩ := RpAll.cons_iff.mp h4
  rw [RpAll.nil_iff.mp h6]
  exact ⟨v, w, rfl, hn F' H' _ ((E'.setDat h3).setDat h5)⟩
/-- a, b = e, e a tuple -/
theorem wp_tup2 {i j : Nat} (h : Ev B true te env fun d => ∃ x y, d = .tup [x, y] ∧ Nx B ((env.set i (.dat x)).set j (.dat y)) D.nx) : Wp B (tAsg te (gTup K 2 (gCons (gName i) (gCons (gName j) gNil)))) env D := fun F H σ E => h F H σ E _ fun d v F' H' hp E' g r => by
  obtain ⟨x, y, rfl, hn⟩ := hp
  obtain ⟨a, vs, rfl, ha, hr⟩ := Rp.tup_iff.mp r
  obtain ⟨v, r1, rfl, h3, h4⟩ := RpAll.cons_iff.mp hr
  obtain ⟨w, r2, rfl, h5, h6⟩ := RpAll.cons_iff.mp h4
  rw [RpAll.nil_iff.mp h6] at ha
  exact ⟨a, _, rfl, SqT.of (E'.fh _ _ ha), rfl, v, [w], rfl, w, [], rfl, rfl, hn F' H' _ ((E'.setDat h3).setDat h5)⟩
/-- found.append(e) -/
theorem wp_append {i : Nat} {xs : List Dt} (hi : env[i]? = some (.own xs)) (h : Ev B true te env fun d => xs.length < 1000000 ∧ Nx B (env.set i (.own (xs ++ [d]))) D.nx) : Wp B (tDrop (tBM K "list" rAppend (tVar i) (tCons te tNil))) env D := fun F H σ E => by
  obtain ⟨p, vs, h1, h2, h3, h4, h5⟩ := E.own hi
  refine ⟨.ref p, h1, .inl ⟨rfl, _, SqL.of h4⟩, h F H σ E _ fun d v F' H' hp E' g r => ?_⟩
  refine ⟨p, vs, v, rfl, rfl, g.h _ _ h4, sz2 (by rw [← h5.length]; exact hp.1), hp.2 F' _ σ ?_⟩
  exact E'.putOwn hi h1 ((RpAll.mono g.f xs h5).append (RpAll.cons r RpAll.nil))
/-- found[k] = e -/
theorem wp_setL {i : Nat} {xs : List Dt} (hi : env[i]? = some (.own xs)) (h : Ev B true te env fun d => Ev B false ta env fun y => ∃ (k : Int) (n : Nat), y = .int k ∧ ixN xs.length k = some n ∧ Nx B (env.set i (.own (xs.set n d))) D.nx) : Wp B (tAsg te (gSub (tVar i) ta rSetL)) env D := fun F H σ E =>
  h F H σ E _ fun d v F1 H1 h1 E1 g1 r1 => by
    obtain ⟨p, vs, e1, e2, e3, e4, e5⟩ := E1.own hi
    refine ⟨.ref p, e1, h1 F1 H1 σ E1 _ fun y w F2 H2 h2 E2 g2 r2 => ?_⟩
    obtain ⟨k, n, rfl, hn, hx⟩ := h2
    refine ⟨p, vs, k, n, rfl, Rp.int_iff.mp r2, g2.h _ _ e4, by rw [← e5.length]; exact hn, hx F2 _ σ ?_⟩
    exact E2.putOwn hi e1 (RpAll.set (Rp.mono g2.f d r1) n (RpAll.mono g2.f xs e5))
/-- found.reverse() -/
theorem wp_reverse {i : Nat} {xs : List Dt} (hi : env[i]? = some (.own xs)) (h : Nx B (env.set i (.own xs.reverse)) D.nx) : Wp B (tDrop (tBM0 K "list" rReverse (tVar i))) env D := fun F H σ E => by
  obtain ⟨p, vs, h1, h2, h3, h4, h5⟩ := E.own hi
  exact ⟨.ref p, h1, .inl ⟨rfl, _, SqL.of h4⟩, p, vs, rfl, rfl, h4, h F _ σ (E.putOwn hi h1 h5.reverse)⟩
/-- x = found.pop(), found.pop() -/
theorem wp_popA {i j : Nat} {xs : List Dt} {d : Dt} (hi : env[i]? = some (.own (xs ++ [d]))) (h : Nx B ((env.set i (.own xs)).set j (.dat d)) D.nx) : Wp B (tAsg (tBM0 K "list" rPop (tVar i)) (gName j)) env D := fun F H σ E => by
  obtain ⟨p, vs, h1, h2, h3, h4, h5⟩ := E.own hi
  have hl := h5.length
  rw [List.length_append, List.length_singleton] at hl
  obtain ⟨v, hv, rv⟩ := h5.get (i := xs.length) (x := d) (by simp)
  have ht := h5.take xs.length
  rw [List.take_left'] at ht
  · have e : vs.dropLast = vs.take xs.length := by rw [List.dropLast_eq_take]; congr 1; omega
    refine ⟨.ref p, h1, .inl ⟨rfl, _, SqL.of h4⟩, p, vs, v, rfl, rfl, h4, by rw [show vs.length - 1 = xs.length by omega]; exact hv, ?_⟩
    rw [e]
    exact h F _ _ ((E.putOwn hi h1 ht).setDat rv)
  · rfl
theorem wp_pop {i : Nat} {xs : List Dt} {d : Dt} (hi : env[i]? = some (.own (xs ++ [d]))) (h : Nx B (env.set i (.own xs)) D.nx) : Wp B (tDrop (tBM0 K "list" rPop (tVar i))) env D := fun F H σ E => by
  obtain ⟨p, vs, h1, h2, h3, h4, h5⟩ := E.own hi
  have hl := h5.length
  rw [List.length_append, List.length_singleton] at hl
  obtain ⟨v, hv, rv⟩ := h5.get (i := xs.length) (x := d) (by simp)
  have ht := h5.take xs.length
  rw [List.take_left'] at ht
  · have e : vs.dropLast = vs.take xs.length := by rw [List.dropLast_eq_take]; congr 1; omega
    refine ⟨.ref p, h1, .inl ⟨rfl, _, SqL.of h4⟩, p, vs, v, rfl, rfl, h4, by rw [show vs.length - 1 = xs.length by omega]; exact hv, ?_⟩
    rw [e]
    exact h F _ _ (E.putOwn hi h1 ht)
  · rfl
/-- found.insert(k, e) -/
theorem wp_break (h : Nx B env D.bk) : Wp B tBreak env D := h
theorem wp_continue (h : Nx B env D.ct) : Wp B tCont env D := h
end

/-! ### loops -/
section
variable {B : Bs} {env : List Sl} {te tl : TE} {D : Ends} {tb : TS} {tt : TT} {K : PySem.W.Frag}
/-- a loop by its turns: INV behind i turns -/
def Lp (B : Bs) (D : Ends) (tb : TS) (j : Nat) (n : Nat) (it : Nat → Dt → Prop) (env : List Sl) (INV : Nat → List Sl → Prop) : Prop :=
  INV 0 env ∧ (∀ i d env', i < n → it i d → INV i env' → Wp B tb (env'.set j (.dat d)) (Lo B D (INV (i + 1)))) ∧ ∀ env', INV n env' → Nx B env' D.nx
theorem wp_forR1 {j : Nat} {ta : TA} (h : Ea B false ta env fun ds => ∃ n : Int, ds = [.int n] ∧ -1000000000 ≤ n ∧ n ≤ 1000000000 ∧ ∃ INV, Lp B D tb j n.toNat (fun i d => d = .int i) env INV) : Wp B (tFor (iRng1 ta) (gName j) tb) env D := fun F H σ E =>
  h F H σ E _ fun ds vs F1 H1 h1 E1 g1 r1 => by
    obtain ⟨n, rfl, n1, n2, INV, i0, it, ie⟩ := h1
    obtain ⟨v, r, rfl, h3, h4⟩ := RpAll.cons_iff.mp r1
    rw [RpAll.nil_iff.mp h4, Rp.int_iff.mp h3]
    refine ⟨n, rfl, by omega, by omega, for_range (lo := 0) (n := n.toNat) (fun i => CZ B (INV i)) ⟨F1, env, E1, i0⟩ (fun i σ' H' hi p => ?_) (fun σ' H' p => ?_)⟩
    · obtain ⟨F2, env2, E2, hv⟩ := p
      exact it i (.int i) env2 hi rfl hv F2 H' _ (E2.setDat (Rp.int_iff.mpr (by rw [Int.zero_add])))
    · obtain ⟨F2, env2, E2, hv⟩ := p
      exact ie env2 hv F2 H' σ' E2
theorem wp_forR2 {j : Nat} {ta : TA} (h : Ea B false ta env fun ds => ∃ lo n : Int, ds = [.int lo, .int n] ∧ (-1000000000 ≤ lo ∧ lo ≤ 1000000000 ∧ -1000000000 ≤ n ∧ n ≤ 1000000000) ∧ ∃ INV, Lp B D tb j (n - lo).toNat (fun i d => d = .int (lo + i)) env INV) : Wp B (tFor (iRng2 ta) (gName j) tb) env D := fun F H σ E =>
  h F H σ E _ fun ds vs F1 H1 h1 E1 g1 r1 => by
    obtain ⟨lo, n, rfl, hb, INV, i0, it, ie⟩ := h1
    obtain ⟨v, r, rfl, h3, h4⟩ := RpAll.cons_iff.mp r1
    obtain ⟨v2, r2, rfl, h5, h6⟩ := RpAll.cons_iff.mp h4
    rw [RpAll.nil_iff.mp h6, Rp.int_iff.mp h3, Rp.int_iff.mp h5]
    refine ⟨lo, n, rfl, by omega, for_range (lo := lo) (n := (n - lo).toNat) (fun i => CZ B (INV i)) ⟨F1, env, E1, i0⟩ (fun i σ' H' hi p => ?_) (fun σ' H' p => ?_)⟩
    · obtain ⟨F2, env2, E2, hv⟩ := p
      exact it i (.int (lo + i)) env2 hi rfl hv F2 H' _ (E2.setDat (Rp.int_iff.mpr rfl))
    · obtain ⟨F2, env2, E2, hv⟩ := p
      exact ie env2 hv F2 H' σ' E2
/-- for x in range(a, b, -1) and any step -/
theorem wp_forR3 {j : Nat} {ta : TA} (h : Ea B false ta env fun ds => ∃ (lo hi c : Int) (n : Nat), ds = [.int lo, .int hi, .int c] ∧ RgC lo hi c n ∧ ∃ INV, Lp B D tb j n (fun i d => d = .int (lo + i * c)) env INV) : Wp B (tFor (iRng3 ta) (gName j) tb) env D := fun F H σ E =>
  h F H σ E _ fun ds vs F1 H1 h1 E1 g1 r1 => by
    obtain ⟨lo, hi, c, n, rfl, hb, INV, i0, it, ie⟩ := h1
    obtain ⟨v, r, rfl, h3, h4⟩ := RpAll.cons_iff.mp r1
    obtain ⟨v2, r2, rfl, h5, h6⟩ := RpAll.cons_iff.mp h4
    obtain ⟨v3, r3, rfl, h7, h8⟩ := RpAll.cons_iff.mp h6
    rw [RpAll.nil_iff.mp h8, Rp.int_iff.mp h3, Rp.int_iff.mp h5, Rp.int_iff.mp h7]
    refine ⟨lo, hi, c, n, rfl, hb, for_rangeC (lo := lo) (c := c) (n := n) (fun i => CZ B (INV i)) ⟨F1, env, E1, i0⟩ (fun i σ' H' hi p => ?_) (fun σ' H' p => ?_)⟩
    · obtain ⟨F2, env2, E2, hv⟩ := p
      exact it i (.int (lo + i * c)) env2 hi rfl hv F2 H' _ (E2.setDat (Rp.int_iff.mpr rfl))
    · obtain ⟨F2, env2, E2, hv⟩ := p
      exact ie env2 hv F2 H' σ' E2
/-- for c in text -/
theorem wp_forS {j : Nat} (h : Ev B false tl env fun x => ∃ z : List Nat, x = .str z ∧ ∃ INV, Lp B D tb j z.length (fun i d => ∃ c, z[i]? = some c ∧ d = .str [c]) env INV) : Wp B (tFor (iStr tl) (gName j) tb) env D := fun F H σ E =>
  h F H σ E _ fun d v F1 H1 h1 E1 g1 r1 => by
    obtain ⟨z, rfl, INV, i0, it, ie⟩ := h1
    have hz : (S z).cps.size = z.length := by show z.toArray.size = _; simp
    refine ⟨S z, Rp.str_iff.mp r1, fun i m σ' H' => m = z.length - i ∧ i ≤ z.length ∧ CZ B (INV i) σ' H', ⟨z.length, by simp, Nat.zero_le _, F1, env, E1, i0⟩, ?_⟩
    rintro i m σ' H' ⟨rfl, hi, F2, env2, E2, hv⟩
    by_cases hlt : i < z.length
    · refine .inr ⟨by show i < (S z).cps.size; omega, CZ B (INV (i + 1)), fun σ2 H2 p' => ⟨z.length - (i + 1), by omega, rfl, hlt, p'⟩, fun v H2 y => ?_⟩
      obtain ⟨e, c, hc, ev⟩ := y
      subst e ev
      have hi' : z[i]? = some c := by
        have : (S z).cps[i]? = z[i]? := by show z.toArray[i]? = _; simp
        rw [← this]; exact hc
      exact it i (.str [c]) env2 hlt ⟨c, hi', rfl⟩ hv F2 _ _ (E2.setDat (Rp.str_iff.mpr rfl))
    · have e : i = z.length := by omega
      subst e
      exact .inl ⟨by show (S z).cps.size ≤ z.length; omega, ie env2 hv F2 H' σ' E2⟩
/-- further facts ride along -/
def Bs.push (B : Bs) (G : Hp) : Bs := { B with gh := G :: B.gh }
theorem EnvOk.push {F H G : Hp} {σ : L2.St} (E : EnvOk B F H σ env) (r : Ex G F) : EnvOk (B.push G) F H σ env :=
  ⟨E.len, E.g, E.gf, E.fh, E.hh, fun p hp => by
    rcases List.mem_cons.mp hp with rfl | hp
    · exact r
    · exact E.gho p hp, fun i s o h1 h2 => by
    have q := E.sl i s o h1 h2
    cases s <;> exact q, E.sep⟩
theorem EnvOk.pop {F H G : Hp} {σ : L2.St} (E : EnvOk (B.push G) F H σ env) : EnvOk B F H σ env :=
  ⟨E.len, E.g, E.gf, E.fh, E.hh, fun p hp => E.gho p (List.mem_cons_of_mem _ hp), fun i s o h1 h2 => by
    have q := E.sl i s o h1 h2
    cases s <;> exact q, E.sep⟩
theorem Nx.up {N : L2.St → Hp → Prop} {G : Hp} (h : Nx B env N) : Nx (B.push G) env N := fun F H σ E => h F H σ E.pop
theorem Wp.up {t : TS} {G : Hp} (h : Wp B t env D) : Wp (B.push G) t env D := fun F H σ E => h F H σ E.pop
/-- a loop over items, facts riding along -/
def Lq (B : Bs) (D : Ends) (tb : TS) (j : Nat) (xs : List Dt) (env : List Sl) (INV : Nat → List Sl → Prop) : Prop :=
  INV 0 env ∧ (∀ G i d env', xs[i]? = some d → INV i env' → Wp (Bs.push B G) tb (env'.set j (.dat d)) (Lo (Bs.push B G) D (INV (i + 1)))) ∧ ∀ env', INV xs.length env' → Nx B env' D.nx
/-- for x in list -/
theorem wp_forL {j : Nat} (h : Ev B true tl env fun x => ∃ xs : List Dt, x = .list xs ∧ ∃ INV, Lq B D tb j xs env INV) : Wp B (tFor (iList K tl) (gName j) tb) env D := fun F H σ E => h F H σ E _ fun d v F1 H1 h1 E1 g1 r1 => by
  obtain ⟨xs, rfl, INV, i0, it, ie⟩ := h1
  obtain ⟨a, vs, rfl, ha, hr⟩ := Rp.list_iff.mp r1
  refine ⟨a, rfl, ⟨vs, SqL.of (E1.fh _ _ ha)⟩, for_list (xs := vs) (fun i σ' H' => CZ (Bs.push B F1) (INV i) σ' H') ⟨F1, env, E1.push (Ex.refl F1), i0⟩ (fun i σ' H' _ p => ?_) (fun i x σ' H' hi p => ?_) (fun σ' H' p => ?_)⟩
  · obtain ⟨F2, env2, E2, hv⟩ := p
    exact SqL.of (E2.fh _ _ (E2.gho F1 List.mem_cons_self _ _ ha))
  · obtain ⟨F2, env2, E2, hv⟩ := p
    obtain ⟨d, hd, rd⟩ := hr.get' hi
    exact it F1 i d env2 hd hv F2 H' _ (E2.setDat (Rp.mono (E2.gho F1 List.mem_cons_self) d rd))
  · obtain ⟨F2, env2, E2, hv⟩ := p
    rw [← hr.length] at hv
    exact ie env2 hv F2 H' σ' E2.pop
/-- for x in tuple -/
theorem wp_forT {j : Nat} (h : Ev B true tl env fun x => ∃ xs : List Dt, x = .tup xs ∧ ∃ INV, Lq B D tb j xs env INV) : Wp B (tFor (iTup K tl) (gName j) tb) env D := fun F H σ E => h F H σ E _ fun d v F1 H1 h1 E1 g1 r1 => by
  obtain ⟨xs, rfl, INV, i0, it, ie⟩ := h1
  obtain ⟨a, vs, rfl, ha, hr⟩ := Rp.tup_iff.mp r1
  refine ⟨a, rfl, ⟨vs, SqT.of (E1.fh _ _ ha)⟩, for_tup (xs := vs) (fun i σ' H' => CZ (Bs.push B F1) (INV i) σ' H') ⟨F1, env, E1.push (Ex.refl F1), i0⟩ (fun i σ' H' _ p => ?_) (fun i x σ' H' hi p => ?_) (fun σ' H' p => ?_)⟩
  · obtain ⟨F2, env2, E2, hv⟩ := p
    exact SqT.of (E2.fh _ _ (E2.gho F1 List.mem_cons_self _ _ ha))
  · obtain ⟨F2, env2, E2, hv⟩ := p
    obtain ⟨d, hd, rd⟩ := hr.get' hi
    exact it F1 i d env2 hd hv F2 H' _ (E2.setDat (Rp.mono (E2.gho F1 List.mem_cons_self) d rd))
  · obtain ⟨F2, env2, E2, hv⟩ := p
    rw [← hr.length] at hv
    exact ie env2 hv F2 H' σ' E2.pop
/-- while: INV with a measure -/
theorem wp_while (INV : Nat → List Sl → Prop) (k : Nat) (h0 : INV k env) (h : ∀ k env', INV k env' → Et B tt env' (Wp B tb env' (Lo B D fun e => ∃ k', k' < k ∧ INV k' e)) (Nx B env' D.nx)) :
    Wp B (tWhile tt tb) env D := fun F H σ E => by
  refine ⟨fun k => CZ B (INV k), ⟨k, F, env, E, h0⟩, fun k σ' H' p => ?_⟩
  obtain ⟨F2, env2, E2, hv⟩ := p
  refine h k env2 hv F2 H' σ' E2 _ (fun hw F3 H3 E3 g3 => ?_) (fun hn F3 H3 E3 g3 => ?_)
  · show ∃ N : L2.St → Hp → Prop, _
    refine ⟨CZ B fun e => ∃ k', k' < k ∧ INV k' e, fun σ4 H4 p4 => ?_, hw F3 H3 σ' E3⟩
    obtain ⟨F4, env4, E4, k', hk, hv4⟩ := p4
    exact ⟨k', hk, F4, env4, E4, hv4⟩
  · exact hn F3 H3 σ' E3
end

/-! ### a def keeps its promise -/
theorem envOk_start {H G : Hp} {N : List Str} {vs : List V} {args : List Dt} (hg : Ex G H) (r : RpAll G args vs) (hN : args.length ≤ N.length) : EnvOk ⟨H, G, []⟩ G H (start N vs) (args.map Sl.dat ++ List.replicate (N.length - args.length) Sl.no) := by
  have hl := r.length
  refine ⟨?_, Ex.refl G, fun a o h n => ?_, hg, Ex.refl H, (fun p hp => by cases hp), fun i s o h1 h2 => ?_, fun i j xs ys p h1 h2 h3 h4 => ?_⟩
  · unfold L2.start
    simp [hl]
  · have n' : G a = none := n
    rw [n'] at h; cases h
  · unfold L2.start at h2
    by_cases hi : i < args.length
    · rw [List.getElem?_append_left (by simpa using hi), List.getElem?_map] at h1
      rw [List.getElem?_append_left (by simpa [← hl] using hi), List.getElem?_map] at h2
      rw [List.getElem?_eq_getElem hi] at h1
      obtain ⟨v, hv, rv⟩ := r.get (List.getElem?_eq_getElem hi)
      rw [hv] at h2
      cases h1
      cases h2
      exact ⟨v, rfl, rv⟩
    · rw [List.getElem?_append_right (by simpa using Nat.le_of_not_lt hi)] at h1
      have := List.mem_of_getElem? h1
      rw [List.eq_of_mem_replicate this]
      trivial
  · by_cases hi : i < args.length
    · rw [List.getElem?_append_left (by simpa using hi), List.getElem?_map, List.getElem?_eq_getElem hi] at h1
      cases h1
    · rw [List.getElem?_append_right (by simpa using Nat.le_of_not_lt hi)] at h1
      have := List.eq_of_mem_replicate (List.mem_of_getElem? h1)
      cases this
/-- a body over data keeps its promise; n slots -/
def WpD (t : TS) (n : Nat) (R : Rd1) : Prop := ∀ (B : Bs) (Q : VK) (args : List Dt) (Φ : Dt → Prop), R args Φ → Rt B Q Φ → Wp B t (args.map Sl.dat ++ List.replicate (n - args.length) Sl.no) (Top Q)
def WpO (t : TS) (n : Nat) (R : RdL) : Prop := ∀ (B : Bs) (Q : VK) (args : List Dt) (Φ : List Dt → Prop), R args Φ → RtO B Q Φ → Wp B t (args.map Sl.dat ++ List.replicate (n - args.length) Sl.no) (Top Q)
/-- a def of the text that keeps a promise, ready to be called -/
structure Df (P : Program) (w : World) (K : PySem.W.Frag) (mg : Str → Option Value) (base : Heap) (k : Nat) (x : Str) (ps : List Str) (sp : Sp) : Prop where
  ex : ∃ (f : Addr) (fd : FuncData), FnOk P w K mg base CX0 k f fd ps sp ∧ mg x = some (.ref f) ∧ PySem.W.keepIn K (.ref f) = true ∧ Binds K fd ps []
section
variable {P : Program} {w : World} {K : PySem.W.Frag} {mg : Str → Option Value} {base : Heap}
/-- THE RULE for a def whose promise is spD -/
theorem okD {x qual : Str} {st : Stmt} {f : Addr} {fd : FuncData} {N ps : List Str} {k n : Nat} {R : Rd1} {t : TS} (F : Fun K x qual st f fd) (SC : FnScope N ps (defScope st)) (hps : ps.length ≤ N.length) (hn : n = ps.length)
    (hbody : ∀ (cdv : Value) (A : Around) (outer : List Env) (s : Shared) (H : Hp) (E : XK), Room k (A.deeper (envOfC qual (defScope st) s.heap.objs.size f cdv)) →
      PSs (cxOf CX0 P w K mg base N qual (defScope st) f cdv A outer s H E).nox (defBody st) t) (hw : WpD t N.length R) :
    FnOk P w K mg base CX0 (k + 1) f fd ps (spD n R) := by
  subst hn
  refine F.ok SC (fun vs H Q E h => ?_) (fun cdv A outer s H vs Q E hr h => ?_)
  · obtain ⟨G, args, Φ, hl, h1, h2, h3, h4⟩ := h
    rw [← h2.length]
    exact hl
  · obtain ⟨G, args, Φ, hl, h1, h2, h3, h4⟩ := h
    exact ⟨t, hbody cdv A outer s H E hr, hw ⟨H, G, []⟩ Q args Φ h3 h4 G H _ (envOk_start h1 h2 (by rw [hl]; exact hps))⟩
theorem okO {x qual : Str} {st : Stmt} {f : Addr} {fd : FuncData} {N ps : List Str} {k n : Nat} {R : RdL} {t : TS} (F : Fun K x qual st f fd) (SC : FnScope N ps (defScope st)) (hps : ps.length ≤ N.length) (hn : n = ps.length)
    (hbody : ∀ (cdv : Value) (A : Around) (outer : List Env) (s : Shared) (H : Hp) (E : XK), Room k (A.deeper (envOfC qual (defScope st) s.heap.objs.size f cdv)) →
      PSs (cxOf CX0 P w K mg base N qual (defScope st) f cdv A outer s H E).nox (defBody st) t) (hw : WpO t N.length R) :
    FnOk P w K mg base CX0 (k + 1) f fd ps (spO n R) := by
  subst hn
  refine F.ok SC (fun vs H Q E h => ?_) (fun cdv A outer s H vs Q E hr h => ?_)
  · obtain ⟨G, args, Φ, hl, h1, h2, h3, h4⟩ := h
    rw [← h2.length]
    exact hl
  · obtain ⟨G, args, Φ, hl, h1, h2, h3, h4⟩ := h
    exact ⟨t, hbody cdv A outer s H E hr, hw ⟨H, G, []⟩ Q args Φ h3 h4 G H _ (envOk_start h1 h2 (by rw [hl]; exact hps))⟩
theorem Df.mk' {x : Str} {ps : List Str} {sp : Sp} {k : Nat} {f : Addr} {fd : FuncData} (h : FnOk P w K mg base CX0 k f fd ps sp) (hm : mg x = some (.ref f)) (hk : PySem.W.keepIn K (.ref f) = true) (hb : Binds K fd ps []) : Df P w K mg base k x ps sp := ⟨f, fd, h, hm, hk, hb⟩
/-- a call of it -/
theorem pe_d {X : Cx} {k j : Nat} {x : Str} {ps : List Str} {sp : Sp} {p pos : Pos} {e : Expr} {es : List Expr} {t : TA} (d : Df X.prog X.w X.K X.mg X.base k x ps sp) (hr : Room j X.A) (hkj : k ≤ j) (hg : Gl X x) (ha : PA X (e :: es) t)
    (hdb : (x == ("__debug__" : Str)) = false := by decide) (he : starEach (e :: es) X.env = (false, eval e X.env) :: starEach es X.env := by rfl) (hpl : (backTo pos (starEach es X.env)).any (·.1) = false := by rfl) :
    PE X (.Call (.Name x p) (e :: es) [] pos) (tCall sp [] E0 t) := by
  obtain ⟨f, fd, h, hm, hk, hb⟩ := d.ex
  exact pe_call h (hr.mono hkj) hg hm hk hb .nil pass0 ha hdb he hpl
end

/-! ### the deck -/
section
variable {P : Program} {w : World} {K : PySem.W.Frag} {mg : Str → Option Value} {base : Heap}
theorem deck_ok {H : Hp} {h : Heap} {a : Addr} {ns : List Int} (hn : ∀ k ∈ ns, 0 ≤ k) (hl : ns.length ≤ 100000) (x : ObjOk P w H h a (.lst (ns.map V.int))) {H2 : Hp} : ObjOk P w H2 h a (deckO a) := by
  obtain ⟨_, its, n, r, e⟩ := x
  refine ⟨⟨ns, its, n, hl, hn, r, e⟩, ⟨_, e⟩, fun h1 h2 z k => ?_⟩
  obtain ⟨ns, its, n, z1, z2, z3, z4⟩ := z
  exact ⟨ns, its, n, z1, z2, z3, k _ z4⟩
theorem deck_at {H : Hp} {h : Heap} {a : Addr} (hok : HOk P w H h) (he : H a = some (deckO a)) : DeckAt a h := by
  have x : ObjOk P w H h a (.ext (DeckAt a)) := hok a _ he
  exact x.1
theorem deck_lst {h : Heap} {a : Addr} (d : DeckAt a h) {H : Hp} : ∃ ns : List Int, ns.length ≤ 100000 ∧ (∀ k ∈ ns, 0 ≤ k) ∧ ObjOk P w H h a (.lst (ns.map V.int)) := by
  obtain ⟨ns, its, n, hl, hn, r, e⟩ := d
  exact ⟨ns, hl, hn, by rw [List.length_map]; exact Nat.le_trans hl (by decide), its, n, r, e⟩
/-- the promise of _law_deck: a deck comes back -/
def spDeck (K : PySem.W.Frag) : Sp := fun vs H Q _ => ∃ (a : Addr) (ns : List Int) (c e : Int), vs = [.ref a, .int c, .int e] ∧ SqL K H a (ns.map V.int) ∧ ns.length ≤ 1000 ∧ 0 ≤ c ∧ c ≤ 100 ∧ 0 ≤ e ∧ e ≤ 100 ∧
  ∀ d H', H d = none → Ex H H' → H' d = some (deckO d) → Q (.ref d) H'
/-- the same, the deck a list as yet -/
def spDeck0 (K : PySem.W.Frag) : Sp := fun vs H Q _ => ∃ (a : Addr) (ns : List Int) (c e : Int), vs = [.ref a, .int c, .int e] ∧ SqL K H a (ns.map V.int) ∧ ns.length ≤ 1000 ∧ 0 ≤ c ∧ c ≤ 100 ∧ 0 ≤ e ∧ e ≤ 100 ∧
  ∀ d H' (ms : List Int), H d = none → Ex H H' → H' d = some (.lst (ms.map V.int)) → ms.length ≤ 100000 → (∀ k ∈ ms, 0 ≤ k) → Q (.ref d) H'
theorem lst_at {H : Hp} {h : Heap} {a : Addr} {xs : List V} (hok : HOk P w H h) (he : H a = some (.lst xs)) : ∃ u, h.get? a = some u := by
  obtain ⟨_, its, n, r, e⟩ := hok a _ he
  exact ⟨_, e⟩
theorem deckO_at {H : Hp} {h : Heap} {a : Addr} (hok : HOk P w H h) (he : H a = some (deckO a)) : ∃ u, h.get? a = some u := by
  have x : ObjOk P w H h a (.ext (DeckAt a)) := hok a _ he
  exact x.2.1
theorem deck_of {x : Str} {ps : List Str} {k : Nat} {f : Addr} {fd : FuncData} (F : FnOk P w K mg base CX0 k f fd ps (spDeck0 K)) : FnOk P w K mg base CX0 k f fd ps (spDeck K) := by
  refine ⟨fun vs H Q E h => ?_, fun A outer s H args us vs Q E hr he hb hv h => ?_⟩
  · obtain ⟨a, ns, c, e, rfl, h1, h2, h3, h4, h5, h6, _⟩ := h
    exact F.len _ H (fun _ _ => True) E ⟨a, ns, c, e, rfl, h1, h2, h3, h4, h5, h6, fun _ _ _ _ _ _ _ _ => trivial⟩
  · obtain ⟨a, ns, c, e, rfl, h1, h2, h3, h4, h5, h6, hq⟩ := h
    refine codeAny_mono (F.run A outer s H args us _ (fun v H' => ∃ d ms, v = .ref d ∧ H d = none ∧ Ex H H' ∧ H' d = some (.lst (List.map V.int ms)) ∧ ms.length ≤ 100000 ∧ (∀ k ∈ ms, 0 ≤ k)) E hr he hb hv
      ⟨a, ns, c, e, rfl, h1, h2, h3, h4, h5, h6, fun d H' ms k1 k2 k3 k4 k5 => ⟨d, ms, rfl, k1, k2, k3, k4, k5⟩⟩) fun r s' hr' => ?_
    cases r with
    | error er => exact hr'
    | ok fl =>
      cases fl with
      | ret u =>
        obtain ⟨v, H', os, bare, un, hok, rv, d, ms, rfl, k1, k2, k3, k4, k5⟩ := hr'
        have mu : Mut (H' d) := by rw [k3]; trivial
        obtain ⟨ob, hob⟩ := lst_at hok k3
        have new : ∀ {H2 : Hp}, ObjOk P w H2 s'.heap d (deckO d) := fun {H2} => deck_ok k5 k4 (hok d _ k3)
        refine ⟨.ref d, upd H' d (deckO d), os, bare, un.trans (Un.write mu (.inl rfl) (fun _ _ _ q => q) ⟨ob, hob⟩), HOk.write hok mu (.inl rfl) (fun _ _ _ q => q) ⟨ob, hob⟩ new, rv, hq d _ k1 (k2.put k1) upd_same⟩
      | next => exact hr'
      | brk => exact hr'
      | cont => exact hr'
/-- _law_take -/
def spTake0 : Sp := fun vs H Q _ => ∃ (d : Addr) (ns : List Int) (n : Int), vs = [.ref d, .int n] ∧ H d = some (.lst (ns.map V.int)) ∧ ns.length ≤ 100000 ∧ (∀ k ∈ ns, 0 ≤ k) ∧ 0 < n ∧
  ∀ (r : Int) (ms : List Int), 0 ≤ r → r < n → ms.length ≤ 100000 → (∀ k ∈ ms, 0 ≤ k) → Q (.int r) (upd H d (.lst (ms.map V.int)))
/-- data: any number below n comes -/
def rTake : Rd1 := fun args Φ => ∃ n : Int, args = [.deck, .int n] ∧ 0 < n ∧ ∀ r : Int, 0 ≤ r → r < n → Φ (.int r)
theorem take_of {ps : List Str} {k : Nat} {f : Addr} {fd : FuncData} (hp : ps.length = 2) (F : FnOk P w K mg base CX0 k f fd ps spTake0) : FnOk P w K mg base CX0 k f fd ps (spD 2 rTake) := by
  refine ⟨fun vs H Q E h => ?_, fun A outer s H args us vs Q E hr he hb hv h => ?_⟩
  · obtain ⟨G, args, Φ, hl, h1, h2, _⟩ := h
    rw [← h2.length, hl, hp]
  · obtain ⟨G, args', Φ, hl, hg, hra, ⟨n, rfl, h0, hΦ⟩, hrt⟩ := h
    obtain ⟨v1, r1, rfl, ha, hra⟩ := RpAll.cons_iff.mp hra
    obtain ⟨v2, r2, rfl, hb2, hra⟩ := RpAll.cons_iff.mp hra
    rw [RpAll.nil_iff.mp hra] at hv
    obtain ⟨d, rfl, hd⟩ := Rp.deck_iff.mp ha
    rw [Rp.int_iff.mp hb2] at hv
    have hdH := hg _ _ hd
    obtain ⟨ns, hn1, hn2, new⟩ := deck_lst (P := P) (w := w) (deck_at he.hok hdH) (H := H)
    have mu : Mut (H d) := by rw [hdH]; trivial
    obtain ⟨ob, hob⟩ := deckO_at he.hok hdH
    have newU : ObjOk P w (upd H d (.lst (ns.map V.int))) s.heap d (.lst (ns.map V.int)) := new
    have ok1 : HOk P w (upd H d (.lst (ns.map V.int))) s.heap := HOk.write he.hok mu (.inl rfl) (fun _ _ _ q => q) ⟨ob, hob⟩ newU
    have nd : ∀ {b : Addr}, H b = none → b ≠ d := fun {b} z e => by rw [e, hdH] at z; cases z
    have he1 : Env0 P w K mg base A outer s (upd H d (.lst (ns.map V.int))) := ⟨he.frames, he.mod, fun b o q => ⟨(he.bs b o q).1, by rw [upd_ne (nd (he.bs b o q).2)]; exact (he.bs b o q).2⟩, he.bsz, he.funs, fun b hb => by rw [upd_ne (nd (he.frf b hb))]; exact he.frf b hb, ok1, he.bare⟩
    refine codeAny_mono (F.run A outer s _ args us _ (fun v H' => ∃ r ms, v = .int r ∧ H' = upd H d (.lst (List.map V.int ms)) ∧ 0 ≤ r ∧ r < n ∧ ms.length ≤ 100000 ∧ (∀ k ∈ ms, 0 ≤ k)) E hr he1 hb hv
      ⟨d, ns, n, rfl, upd_same, hn1, hn2, h0, fun r ms a1 a2 a3 a4 => ⟨r, ms, rfl, upd_upd, a1, a2, a3, a4⟩⟩) fun r s' hr' => ?_
    cases r with
    | error er => exact hr'
    | ok fl =>
      cases fl with
      | ret u =>
        obtain ⟨v, H', os, bare, un, hok, rv, r, ms, rfl, rfl, k1, k2, k3, k4⟩ := hr'
        have e2 : (upd H d (.lst (ms.map V.int))) d = some (.lst (ms.map V.int)) := upd_same
        have mu2 : Mut ((upd H d (.lst (ms.map V.int))) d) := by rw [e2]; trivial
        obtain ⟨ob2, hob2⟩ := lst_at hok e2
        have new2 : ∀ {H2 : Hp}, ObjOk P w H2 s'.heap d (deckO d) := fun {H2} => deck_ok k4 k3 (hok d _ e2)
        have eH : upd (upd H d (.lst (ms.map V.int))) d (deckO d) = H := by
          rw [upd_upd]
          funext b
          by_cases e : b = d
          · rw [e, upd_same, hdH]
          · rw [upd_ne e]
        have ok3 := HOk.write (o' := deckO d) hok mu2 (.inl rfl) (fun _ _ _ q => q) ⟨ob2, hob2⟩ new2
        rw [eH] at ok3
        have un1 : Un (frs outer) [] H (upd H d (.lst (ns.map V.int))) s.heap s.heap := Un.write mu (.inl rfl) (fun _ _ _ q => q) ⟨ob, hob⟩
        have un3 : Un (frs outer) [] (upd H d (.lst (ms.map V.int))) (upd (upd H d (.lst (ms.map V.int))) d (deckO d)) s'.heap s'.heap := Un.write mu2 (.inl rfl) (fun _ _ _ q => q) ⟨ob2, hob2⟩
        rw [eH] at un3
        refine ⟨.int r, H, os, bare, (un1.trans un).trans un3, ok3, rv, hrt (.int r) _ G H (hΦ r k1 k2) (Ex.refl G) (fun a o q1 q2 => ?_) hg (Ex.refl H) (Rp.int_iff.mpr rfl)⟩
        have q2' : G a = none := q2
        rw [q2'] at q1
        cases q1
      | next => exact hr'
      | brk => exact hr'
      | cont => exact hr'
/-- a call of _law_deck in the law, the script raw -/
theorem ev_deck {B : Bs} {env : List Sl} {Pr : Dt → Prop} {X : XK} {i : Nat} {a : Addr} {ns : List Int} {c e : Int} (hi : env[i]? = some (.dat (.raw a))) (hS : SqL K B.H0 a (ns.map V.int)) (hl : ns.length ≤ 1000) (hc : 0 ≤ c ∧ c ≤ 100) (he : 0 ≤ e ∧ e ≤ 100) (h : Pr .deck) :
    Ev B true (tCall (spDeck K) [] X (tCons (tVar i) (tCons (tC (.int c)) (tCons (tC (.int e)) tNil)))) env Pr := fun F H σ E Q q => by
  obtain ⟨v, h1, h2⟩ := E.dat hi
  rw [Rp.raw_iff.mp h2] at h1
  refine ⟨.ref a, h1, ?_⟩
  have hS' : SqL K H a (ns.map V.int) := by
    rcases hS with (z | ⟨o, z⟩) | z
    · exact .inl (.inl (E.hh _ _ z))
    · exact .inl (.inr ⟨o, E.hh _ _ z⟩)
    · exact .inr z
  refine ⟨a, ns, c, e, rfl, hS', hl, hc.1, hc.2, he.1, he.2, fun d H' n1 n2 n3 => ?_⟩
  have fd : F d = none := E.fh.back n1
  have e3 : Ex (upd F d (deckO d)) H' := fun b o z => by
    by_cases hb : b = d
    · rw [hb, upd_same] at z
      rw [hb, n3, z]
    · rw [upd_ne hb] at z
      exact n2 _ _ (E.fh _ _ z)
  have g : Gr F H (upd F d (deckO d)) H' := ⟨Ex.new fd, n2, fun b o z1 z2 => by
    by_cases hb : b = d
    · rw [hb]; exact n1
    · rw [upd_ne hb, z2] at z1; cases z1⟩
  exact q .deck _ _ H' h (E.gr g e3) g (Rp.deck_iff.mpr ⟨d, rfl, upd_same⟩)
/-- the law's promise -/
def spLaw (K : PySem.W.Frag) : Sp := fun vs H Q _ => ∃ (a : Addr) (ns : List Int), vs = [.ref a] ∧ SqL K H a (ns.map V.int) ∧ ns.length ≤ 63 ∧ ∀ H', Q (.bl true) H'
def WpLaw (K : PySem.W.Frag) (t : TS) (n : Nat) : Prop := ∀ (B : Bs) (Q : VK) (a : Addr) (ns : List Int), SqL K B.H0 a (ns.map V.int) → ns.length ≤ 63 → (∀ H', Q (.bl true) H') → Wp B t (.dat (.raw a) :: List.replicate (n - 1) Sl.no) (Top Q)
theorem okLaw {x qual : Str} {st : Stmt} {f : Addr} {fd : FuncData} {N : List Str} {p : Str} {k : Nat} {t : TS} (F : Fun K x qual st f fd) (SC : FnScope N [p] (defScope st)) (hps : 1 ≤ N.length)
    (hbody : ∀ (cdv : Value) (A : Around) (outer : List Env) (s : Shared) (H : Hp) (E : XK), Room k (A.deeper (envOfC qual (defScope st) s.heap.objs.size f cdv)) →
      PSs (cxOf CX0 P w K mg base N qual (defScope st) f cdv A outer s H E).nox (defBody st) t) (hw : WpLaw K t N.length) :
    FnOk P w K mg base CX0 (k + 1) f fd [p] (spLaw K) := by
  refine F.ok SC (fun vs H Q E h => ?_) (fun cdv A outer s H vs Q E hr h => ?_)
  · obtain ⟨a, ns, rfl, _⟩ := h
    rfl
  · obtain ⟨a, ns, rfl, h1, h2, h3⟩ := h
    refine ⟨t, hbody cdv A outer s H E hr, ?_⟩
    exact hw ⟨H, fun _ => none, []⟩ Q a ns h1 h2 h3 (fun _ => none) H _ (envOk_start (G := fun _ => none) (args := [.raw a]) (fun _ _ z => by cases z) (RpAll.cons (Rp.raw_iff.mpr rfl) RpAll.nil) hps)
end
end DL

set_option Elab.async false
set_option linter.all false
set_option maxRecDepth 100000
set_option maxHeartbeats 4000000
set_option autoImplicit false
namespace DL
open PySem PySem.Spec PyProof.Rows L2

/-! ### further kit rules -/
section
variable {X : Cx}
/-- x is True where x is None or a bool -/
def rIsV : R2 := fun x y H Q => (x = .non ∨ ∃ b, x = .bl b) ∧ (∃ c, y = .bl c) ∧ Q (.bl (decide (x = y))) H
theorem op_isV : OpR X (compareOp .Is) rIsV := by
  intro pins s σ H x y v u Q I rx ry h
  obtain ⟨hx, ⟨c, rfl⟩, q⟩ := h
  cases (show u = Value.bool c from ry)
  rcases hx with rfl | ⟨b, rfl⟩
  · cases (show v = Value.none from rx)
    exact wpAny_is_other rfl (fun z => nomatch z) ⟨.bl false, H, I, rfl, by simpa using q⟩
  · exact op_isBl pins s σ H (.bl b) (.bl c) v (Value.bool c) Q I rx rfl ⟨b, c, rfl, rfl, by simpa using q⟩
/-- what is walked is a list or a tuple -/
def iOr (a b : TI) : TI := fun σ H R => a σ H R ∨ b σ H R
theorem pi_or {tg iter : Expr} {a b : TI} (ha : PI X tg iter a) (hb : PI X tg iter b) : PI X tg iter (iOr a b) :=
  ⟨fun pins s σ H R I h => h.elim (ha.run pins s σ H R I) (hb.run pins s σ H R I)⟩
/-- truth by the value -/
def tTru (K : PySem.W.Frag) (ta : TE) : TT := fun σ H Q => ta σ H fun x H' => ∃ k, TruV K x H' k ∧ Q k H'
/-- xs[k] op= e, 0 ≤ k -/
def rGetL (K : PySem.W.Frag) : V → V → Hp → VK → Prop := fun o i H Q => ∃ p xs k v, o = .ref p ∧ i = .int k ∧ SqL K H p xs ∧ 0 ≤ k ∧ k < 2 ^ 62 ∧ xs[k.toNat]? = some v ∧ Q v H
theorem pget_list : PGet X (rGetL X.K) := by
  intro pins s σ H o i ov iv Q I ro ri h
  obtain ⟨p, xs, k, v, rfl, rfl, hl, h0, h1, hk, q⟩ := h
  cases ro
  obtain ⟨t, rfl⟩ := ri
  obtain ⟨its, r, pl, hz⟩ := I.list hl
  obtain ⟨u, hu, ru⟩ := r.get hk
  exact wpAny_getItem_list pl.isList h0 (by omega) (by simpa using hu) ⟨v, H, I, ru, q⟩
/-- text[::-1] -/
def tRevS (te : TE) : TE := fun σ H Q => te σ H fun x H1 => ∃ z : Str, x = .str z ∧ z.length ≤ sizeLine ∧ Q (.str ⟨z.cps.toList.reverse.toArray⟩) H1
theorem revS_pick (z : Str) : (Builtin.Str.strSliceIndices none none (-1) z.length).filterMap (z.cps[·]?) = z.cps.toList.reverse := by
  have e : Builtin.Str.strSliceIndices none none (-1) z.length = sliceRange ((z.length : Int) - 1) (-1) (-1) := by
    unfold Builtin.Str.strSliceIndices
    have h1 : ¬ ((-1 : Int) > 0) := by decide
    simp only [h1, if_false]
  rw [e, PySem.W.krv_sliceRange, PySem.W.krv_range, List.filterMap_reverse]
  show ((List.range z.cps.size).filterMap (z.cps[·]?)).reverse = _
  rw [PySem.W.krv_all]
theorem pe_revS {e : Expr} {te : TE} {k : Nat} {p1 p2 p3 pos : Pos} (he : PE X e te) : PE X (.Subscript e (.Slice none none (some (.UnaryOp .USub (.Constant (.int 1) k p1) p2)) p3) pos) (tRevS te) := by
  refine ⟨fun pins s σ H Q I h => ?_⟩
  refine Subscript_ (thn (he.run pins s σ H _ I h) fun v s1 ⟨x, H1, I1, r1, q1⟩ => ?_)
  obtain ⟨z, ex, hz, q⟩ := q1
  subst ex
  obtain ⟨t, rfl⟩ := r1
  have hst : PO X (some (.UnaryOp .USub (.Constant (.int 1) k p1) p2)) (tPart (tUn (rU fun i => .int (-i)) (tC (.int 1)))) := po_some (pe_un un_neg pe_int)
  refine wpAny_Slice (thn (po_none.run pins s1 σ H1 (fun o H2 => o = none ∧ H2 = H1) I1 ⟨rfl, rfl⟩) fun vl s2 ⟨l, H2, I2, pl, el, e2⟩ => ?_)
  subst el e2
  refine thn (po_none.run pins s2 σ H2 (fun o H3 => o = none ∧ H3 = H2) I2 ⟨rfl, rfl⟩) fun vu s3 ⟨u, H3, I3, pu, eu, e3⟩ => ?_
  subst eu e3
  refine thn (hst.run pins s3 σ H3 (fun o H4 => o = some (-1) ∧ H4 = H3) I3 ⟨1, rfl, -1, rfl, rfl, rfl⟩) fun vs s4 ⟨o, H4, I4, ps, eo, e4⟩ => ?_
  subst eo e4
  have I5 : Inv X pins σ H4 { s4 with heap := s4.heap.push { cls := .type "slice", data := .fields #[vl, vu, vs] } } := I4.kept (t' := s4.toks) fun b ob q => Heap.get?_push_of_some _ q
  obtain ⟨l, e1, e2⟩ := IsPart.raw pl
  obtain ⟨u, e3, e4⟩ := IsPart.raw pu
  obtain ⟨st, e5, e6⟩ := IsPart.raw ps
  have hl : l = none := by cases l with
    | none => rfl
    | some a => cases e2
  have hu : u = none := by cases u with
    | none => rfl
    | some a => cases e4
  obtain ⟨tk, hst'⟩ : ∃ tk, st = some (-1, tk) := by
    cases st with
    | none => cases e6
    | some a =>
      obtain ⟨i, tk⟩ := a
      have : i = (-1 : Int) := Option.some.inj e6
      subst this
      exact ⟨tk, rfl⟩
  subst hl hu hst'
  obtain ⟨os, hos, hcs, hds⟩ : Heap.IsSliceOf (s4.heap.push { cls := .type "slice", data := .fields #[vl, vu, vs] }) s4.heap.objs.size vl vu vs := Heap.IsSliceOf.new _ vl vu vs
  rw [e1, e3, e5] at hds
  refine tail_any (ops := [.str z t, .ref s4.heap.objs.size]) (typeIs_str _ _ _) F.slot_str_getitem.lookup ?_ (by with_unfolding_all rfl)
  refine wpAny_getItem_str_slice (l := none) (u := none) (st := some (-1, tk)) ⟨os, hos, hcs, hds⟩ rfl ?_
  unfold sliceMade
  have hne : ¬ ((((some ((-1 : Int), tk)).map (·.1)).getD 1 == 1 && (slicePicked z none none (some (-1, tk))).length == z.length) = true) := by
    intro h
    rw [Bool.and_eq_true] at h
    exact absurd (show ((-1 : Int) == 1) = true from h.1) (by decide)
  rw [if_neg hne]
  have ep : (slicePicked z none none (some ((-1 : Int), tk))).filterMap (z.cps[·]?) = z.cps.toList.reverse := revS_pick z
  rw [ep]
  have hlen : Str.length ⟨z.cps.toList.reverse.toArray⟩ ≤ sizeLine := by
    show z.cps.toList.reverse.toArray.size ≤ sizeLine
    rw [List.size_toArray, List.length_reverse, Array.length_toList]
    exact hz
  exact ⟨hlen, .str _, H4, I5.tok _, ⟨_, rfl⟩, q⟩
end

/-! ### data rules for these -/
section
variable {B : Bs} {m m1 m2 : Bool} {env : List Sl} {P : Dt → Prop} {PL : List Dt → Prop} {ta tb te tc : TE} {K : PySem.W.Frag} {PT PF : Prop}
/-- the type's name -/
def tyD : Dt → String
  | .non => "NoneType"
  | .bl _ => "bool"
  | .int _ => "int"
  | .str _ => "str"
  | .list _ => "list"
  | .tup _ => "tuple"
  | .deck => "list"
  | .raw _ => ""
def plainD : Dt → Prop
  | .deck => False
  | .raw _ => False
  | _ => True
theorem tyX_of {d : Dt} {v : V} {H : Hp} (hp : plainD d) (r : Rp H d v) : TyX K H v (.type (tyD d)) := by
  cases d with
  | non => rw [Rp.non_iff.mp r]; exact .base .non
  | bl b => rw [Rp.bl_iff.mp r]; exact .base (.bl b)
  | int i => rw [Rp.int_iff.mp r]; exact .base (.int i)
  | str x => rw [Rp.str_iff.mp r]; exact .base (.str _)
  | list xs => obtain ⟨a, vs, rfl, h, _⟩ := Rp.list_iff.mp r; exact .base (.lst h)
  | tup xs => obtain ⟨a, vs, rfl, h, _⟩ := Rp.tup_iff.mp r; exact .base (.tup h)
  | deck => exact hp.elim
  | raw a => exact hp.elim
def IsiP (T : String) (P : Dt → Prop) (x : Dt) : Prop := plainD x ∧ ∃ b, kitB (tyD x) T = some b ∧ P (.bl b)
def IsiTP (T U : String) (P : Dt → Prop) (x : Dt) : Prop := plainD x ∧ ∃ b c, kitB (tyD x) T = some b ∧ kitB (tyD x) U = some c ∧ P (.bl (b || c))
theorem isi_i {T : String} {x : Dt} {b : Bool} (hp : plainD x) (h : kitB (tyD x) T = some b) (h2 : P (.bl b)) : IsiP T P x := ⟨hp, b, h, h2⟩
theorem isiT_i {T U : String} {x : Dt} {b c : Bool} (hp : plainD x) (h : kitB (tyD x) T = some b) (h' : kitB (tyD x) U = some c) (h2 : P (.bl (b || c))) : IsiTP T U P x := ⟨hp, b, c, h, h', h2⟩
theorem ev_isi {T : String} (h : Ev B false ta env (IsiP T P)) : Ev B m (tCB (rIsi K) (tCons ta (tCons (tC (.ty T)) tNil))) env P := fun F H σ E Q q => h F H σ E _ fun d v F1 H1 h1 E1 g1 r1 => by
  obtain ⟨hp, b, hb, hP⟩ := h1
  exact ⟨v, .ty T, _, _, b, rfl, .ty T, tyX_of hp r1, kit_ty hb, q _ _ F1 H1 hP E1 g1 (Rp.bl_iff.mpr rfl)⟩
theorem kitAny_or {t : String} {a b : String} {x y : Bool} (h1 : kitB t a = some x) (h2 : kitB t b = some y) : PySem.W.kitAny K (.type t) [.type a, .type b] = some (x || y) := by
  refine kitAny_cons (kit_ty h1) (fun hx => ?_) (fun hx => by rw [hx]; rfl)
  rw [hx, Bool.false_or]
  exact kitAny_cons (kit_ty h2) (fun hy => by rw [hy]; exact kitAny_nil) (fun hy => hy)
theorem ev_isiT {T U : String} (h : Ev B false ta env (IsiTP T U P)) : Ev B m (tCB (rIsiT K) (tCons ta (tCons (tTup (tCons (tC (.ty T)) (tCons (tC (.ty U)) tNil))) tNil))) env P := fun F H σ E Q q => h F H σ E _ fun d v F1 H1 h1 E1 g1 r1 => by
  obtain ⟨hp, b, c, hb, hc, hP⟩ := h1
  refine ⟨by show 2 ≤ sizeLine; decide, fun p hp2 => ?_⟩
  refine ⟨v, p, _, _, _, b || c, rfl, upd_same, .cons (.ty T) (.cons (.ty U) .nil), tyX_of hp (Rp.mono (Ex.new hp2) d r1), kitAny_or hb hc, ?_⟩
  exact q _ _ F1 _ hP (E1.allocH _ hp2) (g1.trans (Gr.allocH hp2)) (Rp.bl_iff.mpr rfl)
theorem ev_isV (h : Ev B false ta env fun x => ((x = .non ∧ P (.bl false)) ∨ ∃ b, x = .bl b ∧ P (.bl b))) : Ev B m (tOp rIsV ta (tC (.bl true))) env P :=
  ev_op2 (m2 := false) (P2 := fun x y => y = .bl true ∧ ((x = .non ∧ P (.bl false)) ∨ ∃ b, x = .bl b ∧ P (.bl b))) (ev_imp h fun x hp => ev_bl ⟨rfl, hp⟩) fun dx dy x y F H σ Q E rx ry hp k => by
    obtain ⟨rfl, hp⟩ := hp
    rw [Rp.bl_iff.mp ry]
    rcases hp with ⟨rfl, hp⟩ | ⟨b, rfl, hp⟩
    · rw [Rp.non_iff.mp rx]
      exact ⟨.inl rfl, ⟨true, rfl⟩, k _ _ F H hp E (Gr.refl F H) (Rp.bl_iff.mpr rfl)⟩
    · rw [Rp.bl_iff.mp rx]
      refine ⟨.inr ⟨b, rfl⟩, ⟨true, rfl⟩, k _ _ F H hp E (Gr.refl F H) (Rp.bl_iff.mpr ?_)⟩
      cases b <;> rfl
theorem ev_revS (h : Ev B false ta env fun x => ∃ z, x = .str z ∧ z.length ≤ 1000000 ∧ P (.str z.reverse)) : Ev B m (tRevS ta) env P := fun F H σ E Q q => h F H σ E _ fun d v F1 H1 h1 E1 g1 r1 => by
  obtain ⟨z, rfl, hz, hp⟩ := h1
  exact ⟨S z, Rp.str_iff.mp r1, by rw [S_len]; exact sz1 hz, q _ _ F1 H1 hp E1 g1 (Rp.str_iff.mpr rfl)⟩
theorem ev_chain {r r' : R2} {P2 : Dt → Dt → Bool → Prop} {P3 : Dt → Dt → Dt → Prop}
    (h : Ev B false ta env fun x => Ev B false tb env fun y => ∃ b : Bool, P2 x y b ∧ (b = true → Ev B false tc env fun z => P3 x y z) ∧ (b = false → P (.bl false)))
    (h2 : ∀ dx dy x y b F H σ (Q : VK), EnvOk B F H σ env → Rp H dx x → Rp H dy y → P2 dx dy b → Q (.bl b) H → r x y H Q)
    (h3 : ∀ dx dy dz y z F H σ (Q : VK), EnvOk B F H σ env → Rp H dy y → Rp H dz z → P3 dx dy dz → (∀ c, P (.bl c) → Q (.bl c) H) → r' y z H Q) :
    Ev B m (tChain r r' ta tb tc) env P := fun F H σ E Q q => h F H σ E _ fun dx x F1 H1 k1 E1 g1 r1 => k1 F1 H1 σ E1 _ fun dy y F2 H2 k2 E2 g2 r2 => by
  obtain ⟨b, p2, pt, pf⟩ := k2
  refine h2 dx dy x y b F2 H2 σ _ E2 (Rp.mono g2.h dx r1) r2 p2 ⟨b, rfl, ?_⟩
  cases b with
  | false =>
    show Q (.bl false) H2
    exact q _ _ F2 H2 (pf rfl) E2 (g1.trans g2) (Rp.bl_iff.mpr rfl)
  | true =>
    show tc σ H2 _
    refine pt rfl F2 H2 σ E2 _ fun dz z F3 H3 k3 E3 g3 r3 => ?_
    exact h3 dx dy dz y z F3 H3 σ Q E3 (Rp.mono g3.h dy r2) r3 k3 fun c hc => q _ _ F3 H3 hc E3 ((g1.trans g2).trans g3) (Rp.bl_iff.mpr rfl)
theorem ev_chainS (h : Ev B false ta env fun x => Ev B false tb env fun y => ∃ i j, x = .str i ∧ y = .str j ∧ (¬ j < i → Ev B false tc env fun z => ∃ k, z = .str k ∧ P (.bl (!decide (k < j)))) ∧ (j < i → P (.bl false))) : Ev B m (tChain rLeS rLeS ta tb tc) env P :=
  ev_chain (P2 := fun x y b => ∃ i j, x = .str i ∧ y = .str j ∧ b = !decide (j < i)) (P3 := fun x y z => ∃ j k, y = .str j ∧ z = .str k ∧ P (.bl (!decide (k < j))))
    (ev_imp h fun x hx => ev_imp hx fun y hy => by
      obtain ⟨i, j, rfl, rfl, h1, h2⟩ := hy
      refine ⟨_, ⟨i, j, rfl, rfl, rfl⟩, fun hb => ev_imp (h1 (by simpa using hb)) fun z hz => ?_, fun hb => h2 (by simpa using hb)⟩
      obtain ⟨k, rfl, hk⟩ := hz
      exact ⟨j, k, rfl, rfl, hk⟩)
    (fun dx dy x y b F H σ Q E rx ry hp k => by
      obtain ⟨i, j, rfl, rfl, rfl⟩ := hp
      exact ⟨S i, S j, Rp.str_iff.mp rx, Rp.str_iff.mp ry, k⟩)
    (fun dx dy dz y z F H σ Q E ry rz hp k => by
      obtain ⟨i, j, rfl, rfl, hp⟩ := hp
      exact ⟨S i, S j, Rp.str_iff.mp ry, Rp.str_iff.mp rz, k _ hp⟩)
theorem ev_chainI {f g : Int → Int → Bool} (h : Ev B false ta env fun x => Ev B false tb env fun y => ∃ i j, x = .int i ∧ y = .int j ∧ (f i j = true → Ev B false tc env fun z => ∃ k, z = .int k ∧ P (.bl (g j k))) ∧ (f i j = false → P (.bl false))) :
    Ev B m (tChain (rI0 fun i j => .bl (f i j)) (rI0 fun i j => .bl (g i j)) ta tb tc) env P :=
  ev_chain (P2 := fun x y b => ∃ i j, x = .int i ∧ y = .int j ∧ b = f i j) (P3 := fun x y z => ∃ j k, y = .int j ∧ z = .int k ∧ P (.bl (g j k)))
    (ev_imp h fun x hx => ev_imp hx fun y hy => by
      obtain ⟨i, j, rfl, rfl, h1, h2⟩ := hy
      refine ⟨_, ⟨i, j, rfl, rfl, rfl⟩, fun hb => ev_imp (h1 hb) fun z hz => ?_, h2⟩
      obtain ⟨k, rfl, hk⟩ := hz
      exact ⟨j, k, rfl, rfl, hk⟩)
    (fun dx dy x y b F H σ Q E rx ry hp k => by
      obtain ⟨i, j, rfl, rfl, rfl⟩ := hp
      exact ⟨i, j, Rp.int_iff.mp rx, Rp.int_iff.mp ry, k⟩)
    (fun dx dy dz y z F H σ Q E ry rz hp k => by
      obtain ⟨i, j, rfl, rfl, hp⟩ := hp
      exact ⟨i, j, Rp.int_iff.mp ry, Rp.int_iff.mp rz, k _ hp⟩)
/-- over a tuple -/
theorem el_lcT {j : Nat} {tt : TT} {tl : TE} (hj : ∀ xs, env[j]? ≠ some (.own xs))
    (h : Ev B true tl env fun x => ∃ xs, x = .tup xs ∧ ∃ INV : Nat → List Dt → Prop, INV 0 [] ∧ (∀ i d, xs[i]? = some d → CT B tt te env j INV i d) ∧ ∀ acc, INV xs.length acc → PL acc) : El B (tLc (iTup K tl) (gName j) tt te [j]) env PL := fun F H σ E Q q =>
  h F H σ E _ fun d v F1 H1 h1 E1 g1 r1 => by
    obtain ⟨xs, rfl, INV, i0, it, ie⟩ := h1
    obtain ⟨a, vs, rfl, ha, hr⟩ := Rp.tup_iff.mp r1
    refine ⟨a, rfl, ⟨vs, SqT.of (E1.fh _ _ ha)⟩, fun D hD => lc_tup (xs := vs) (fun i H' => CW B env σ F1 H1 D (INV i) H') (cw_start E1 hD i0) (fun i H' _ ⟨F, acc, ws, E', g, _⟩ => SqT.of (g.h _ _ (E1.fh _ _ ha))) (fun i x H' hi p => ?_) (fun H' p => ?_)⟩
    · obtain ⟨d, hd, rd⟩ := hr.get' hi
      exact ⟨wipe_turn σ j x, cw_turn E1 hD p (fun F g => Rp.mono g.f d rd) hj (it i d hd)⟩
    · obtain ⟨F2, acc, ws, E2, g2, d2, hd2, r2, hi⟩ := p
      exact q acc ws D F2 H' (ie acc (by rw [hr.length]; exact hi)) E2 (g1.trans g2) (g1.h.back hD) d2 hd2 r2
theorem el_or1 {a b : TI} {g : TG} {tt : TT} {vs : List Nat} (h : El B (tLc a g tt te vs) env PL) : El B (tLc (iOr a b) g tt te vs) env PL := fun F H σ E Q q => Or.inl (h F H σ E Q q)
theorem el_or2 {a b : TI} {g : TG} {tt : TT} {vs : List Nat} (h : El B (tLc b g tt te vs) env PL) : El B (tLc (iOr a b) g tt te vs) env PL := fun F H σ E Q q => Or.inr (h F H σ E Q q)

/-! == of data -/
mutual
def toPy : Dt → PyData
  | .non => .none
  | .bl b => .bool b
  | .int i => .int i
  | .str x => .str (S x)
  | .list xs => .list (toPys xs)
  | .tup xs => .tuple (toPys xs)
  | .deck => .none
  | .raw _ => .none
def toPys : List Dt → List PyData
  | [] => []
  | x :: xs => toPy x :: toPys xs
end
mutual
/-- it is data throughout -/
def pureD : Dt → Bool
  | .deck => false
  | .raw _ => false
  | .str x => x.all fun c => decide (c < 1114112)
  | .list xs => pureDs xs
  | .tup xs => pureDs xs
  | _ => true
def pureDs : List Dt → Bool
  | [] => true
  | x :: xs => pureD x && pureDs xs
end
mutual
/-- no list within is too long -/
def lenD : Dt → Bool
  | .list xs => decide (xs.length ≤ 100000) && lenDs xs
  | .tup xs => decide (xs.length ≤ 100000) && lenDs xs
  | _ => true
def lenDs : List Dt → Bool
  | [] => true
  | x :: xs => lenD x && lenDs xs
end
mutual
theorem dp_of {H : Hp} : ∀ (d : Dt) {v : V}, pureD d = true → Rp H d v → Dp K H v (toPy d)
  | .non, v, _, r => by rw [Rp.non_iff.mp r]; unfold toPy; exact .non
  | .bl b, v, _, r => by rw [Rp.bl_iff.mp r]; unfold toPy; exact .bl b
  | .int b, v, _, r => by rw [Rp.int_iff.mp r]; unfold toPy; exact .int b
  | .str b, v, _, r => by rw [Rp.str_iff.mp r]; unfold toPy; exact .str _
  | .list xs, v, hp, r => by
    obtain ⟨a, vs, rfl, h, hr⟩ := Rp.list_iff.mp r
    unfold toPy
    unfold pureD at hp
    exact .lst (SqL.of h) (dps_of xs hp hr)
  | .tup xs, v, hp, r => by
    obtain ⟨a, vs, rfl, h, hr⟩ := Rp.tup_iff.mp r
    unfold toPy
    unfold pureD at hp
    exact .tup (SqT.of h) (dps_of xs hp hr)
  | .deck, _, hp, _ => by unfold pureD at hp; cases hp
  | .raw _, _, hp, _ => by unfold pureD at hp; cases hp
theorem dps_of {H : Hp} : ∀ (ds : List Dt) {vs : List V}, pureDs ds = true → RpAll H ds vs → DpAll K H vs (toPys ds)
  | [], vs, _, r => by rw [RpAll.nil_iff.mp r]; unfold toPys; exact .nil
  | x :: xs, vs, hp, r => by
    obtain ⟨v, w, rfl, h1, h2⟩ := RpAll.cons_iff.mp r
    unfold pureDs at hp
    rw [Bool.and_eq_true] at hp
    unfold toPys
    exact .cons (dp_of x hp.1 h1) (dps_of xs hp.2 h2)
end
theorem ev_eqD (h : Ev B false ta env fun x => Ev B false tb env fun y => (pureD x = true ∧ pureD y = true ∧ SeqAt.shaped (toPy x) = true ∧ SeqAt.shaped (toPy y) = true) ∧ P (.bl (PyData.eqv (toPy x) (toPy y)))) : Ev B m (tOp (rEqD K) ta tb) env P :=
  ev_op2 h fun dx dy x y F H σ Q E rx ry hp k =>
    ⟨toPy dx, toPy dy, dp_of dx hp.1.1 rx, dp_of dy hp.1.2.1 ry, hp.1.2.2.1, hp.1.2.2.2, k _ _ F H hp.2 E (Gr.refl F H) (Rp.bl_iff.mpr rfl)⟩
theorem ev_neD (h : Ev B false ta env fun x => Ev B false tb env fun y => (pureD x = true ∧ pureD y = true ∧ SeqAt.shaped (toPy x) = true ∧ SeqAt.shaped (toPy y) = true) ∧ P (.bl (!PyData.eqv (toPy x) (toPy y)))) : Ev B m (tOp (rNeD K) ta tb) env P :=
  ev_op2 h fun dx dy x y F H σ Q E rx ry hp k =>
    ⟨toPy dx, toPy dy, dp_of dx hp.1.1 rx, dp_of dy hp.1.2.1 ry, hp.1.2.2.1, hp.1.2.2.2, k _ _ F H hp.2 E (Gr.refl F H) (Rp.bl_iff.mpr rfl)⟩

/-! the script, raw -/
theorem ev_lenRaw {i : Nat} {a : Addr} {ns : List Int} (hi : env[i]? = some (.dat (.raw a))) (hS : SqL K B.H0 a (ns.map V.int)) (h : P (.int ns.length)) : Ev B m (tCB (rLenL K) (tCons (tVar i) tNil)) env P := fun F H σ E Q q => by
  obtain ⟨v, h1, h2⟩ := E.dat hi
  rw [Rp.raw_iff.mp h2] at h1
  have hS' : SqL K H a (ns.map V.int) := by
    rcases hS with (z | ⟨o, z⟩) | z
    · exact .inl (.inl (E.hh _ _ z))
    · exact .inl (.inr ⟨o, E.hh _ _ z⟩)
    · exact .inr z
  refine ⟨.ref a, h1, a, ns.map V.int, rfl, .inl hS', ?_⟩
  rw [List.length_map]
  exact q _ _ F H h E (Gr.refl F H) (Rp.int_iff.mpr rfl)
theorem ev_ixRaw {i : Nat} {a : Addr} {ns : List Int} (hi : env[i]? = some (.dat (.raw a))) (hS : SqL K B.H0 a (ns.map V.int)) (h : Ev B false tb env fun y => ∃ (k : Nat) (z : Int), y = .int k ∧ ns[k]? = some z ∧ P (.int z)) : Ev B m (tOp (rIxL K) (tVar i) tb) env P := fun F H σ E Q q => by
  obtain ⟨v, h1, h2⟩ := E.dat hi
  rw [Rp.raw_iff.mp h2] at h1
  refine ⟨.ref a, h1, h F H σ E _ fun d w F1 H1 k1 E1 g1 r1 => ?_⟩
  obtain ⟨k, z, rfl, hz, hp⟩ := k1
  have hS' : SqL K H1 a (ns.map V.int) := by
    rcases hS with (z | ⟨o, z⟩) | z
    · exact .inl (.inl (E1.hh _ _ z))
    · exact .inl (.inr ⟨o, E1.hh _ _ z⟩)
    · exact .inr z
  exact ⟨a, ns.map V.int, k, .int z, rfl, Rp.int_iff.mp r1, hS', atI_nat (by rw [List.getElem?_map, hz]; rfl), q _ _ F1 H1 hp E1 g1 (Rp.int_iff.mpr rfl)⟩
theorem ev_ixN {i : Nat} {xs : List Dt} {k : Nat} {d : Dt} (h : xs[k]? = some d) : L2.atI xs (k : Int) = some d := atI_nat h
/-- xs[k] += e, a list of the def's own of ints -/
theorem wp_augL {D : Ends} {i : Nat} {xs : List Dt} {f : Int → Int → Int} (hi : env[i]? = some (.own xs))
    (h : Ev B false ta env fun y => ∃ (k : Nat) (z : Int), y = .int k ∧ k < 1000000 ∧ xs[k]? = some (.int z) ∧ Ev B false te env fun w => ∃ c, w = .int c ∧ Nx B (env.set i (.own (xs.set k (.int (f z c))))) D.nx) :
    Wp B (tAugS (tVar i) ta te (rGetL K) (ipI f) rSetL) env D := fun F H σ E => by
  obtain ⟨p, vs, e1, e2, e3, e4, e5⟩ := E.own hi
  refine ⟨.ref p, e1, h F H σ E _ fun y v F1 H1 h1 E1 g1 r1 => ?_⟩
  obtain ⟨k, z, rfl, hk, hz, h2⟩ := h1
  obtain ⟨w, hw, rw'⟩ := e5.get hz
  refine ⟨p, vs, k, w, rfl, Rp.int_iff.mp r1, SqL.of (g1.h _ _ e4), by omega, by omega, by simpa using hw, ?_⟩
  refine h2 F1 H1 σ E1 _ fun d u F2 H2 h3 E2 g2 r2 => ?_
  obtain ⟨c, rfl, hn⟩ := h3
  refine ⟨z, c, Rp.int_iff.mp rw', Rp.int_iff.mp r2, ?_⟩
  have g := g1.trans g2
  refine ⟨p, vs, k, k, rfl, Rp.int_iff.mp r1, g.h _ _ e4, ?_, hn F2 _ σ ?_⟩
  · have : k < vs.length := (List.getElem?_eq_some_iff.mp hw).1
    unfold ixN
    rw [if_pos (by omega), if_pos (by omega)]
    simp
  · exact E2.putOwn hi e1 (RpAll.set (Rp.int_iff.mpr rfl) k (RpAll.mono g.f xs e5))
/-- truth: a list, a text, an int -/
def TruP (PT PF : Prop) : Dt → Prop
  | .list xs => (xs ≠ [] → PT) ∧ (xs = [] → PF)
  | .str xs => xs.length ≤ 1000000 ∧ (xs ≠ [] → PT) ∧ (xs = [] → PF)
  | .int i => (i ≠ 0 → PT) ∧ (i = 0 → PF)
  | _ => False
end

/-! ### _law_deck, _law_take -/
section
variable {P : Program} {w : World} {K : PySem.W.Frag} {mg : Str → Option Value} {base : Heap}
def WpDeck (K : PySem.W.Frag) (t : TS) (n : Nat) : Prop := ∀ (B : Bs) (Q : VK) (a : Addr) (ns : List Int) (c e : Int), SqL K B.H0 a (ns.map V.int) → ns.length ≤ 1000 → 0 ≤ c → c ≤ 100 → 0 ≤ e → e ≤ 100 →
  (∀ d H' (ms : List Int), B.H0 d = none → Ex B.H0 H' → H' d = some (.lst (ms.map V.int)) → ms.length ≤ 100000 → (∀ k ∈ ms, 0 ≤ k) → Q (.ref d) H') → Wp B t ([.dat (.raw a), .dat (.int c), .dat (.int e)] ++ List.replicate (n - 3) Sl.no) (Top Q)
theorem okDeck {x qual : Str} {st : Stmt} {f : Addr} {fd : FuncData} {N : List Str} {p1 p2 p3 : Str} {k : Nat} {t : TS} (F : Fun K x qual st f fd) (SC : FnScope N [p1, p2, p3] (defScope st)) (hps : 3 ≤ N.length)
    (hbody : ∀ (cdv : Value) (A : Around) (outer : List Env) (s : Shared) (H : Hp) (E : XK), Room k (A.deeper (envOfC qual (defScope st) s.heap.objs.size f cdv)) →
      PSs (cxOf CX0 P w K mg base N qual (defScope st) f cdv A outer s H E).nox (defBody st) t) (hw : WpDeck K t N.length) :
    FnOk P w K mg base CX0 (k + 1) f fd [p1, p2, p3] (spDeck0 K) := by
  refine F.ok SC (fun vs H Q E h => ?_) (fun cdv A outer s H vs Q E hr h => ?_)
  · obtain ⟨a, ns, c, e, rfl, _⟩ := h
    rfl
  · obtain ⟨a, ns, c, e, rfl, h1, h2, h3, h4, h5, h6, h7⟩ := h
    refine ⟨t, hbody cdv A outer s H E hr, ?_⟩
    exact hw ⟨H, fun _ => none, []⟩ Q a ns c e h1 h2 h3 h4 h5 h6 h7 (fun _ => none) H _ (envOk_start (G := fun _ => none) (args := [.raw a, .int c, .int e]) (fun _ _ z => by cases z) (RpAll.cons (Rp.raw_iff.mpr rfl) (RpAll.cons (Rp.int_iff.mpr rfl) (RpAll.cons (Rp.int_iff.mpr rfl) RpAll.nil))) hps)
theorem okTake {x qual : Str} {st : Stmt} {f : Addr} {fd : FuncData} {N : List Str} {p1 p2 : Str} {k : Nat} {t : TS} (F : Fun K x qual st f fd) (SC : FnScope N [p1, p2] (defScope st)) (hps : 2 ≤ N.length)
    (hbody : ∀ (cdv : Value) (A : Around) (outer : List Env) (s : Shared) (H : Hp) (E : XK), Room k (A.deeper (envOfC qual (defScope st) s.heap.objs.size f cdv)) →
      PSs (cxOf CX0 P w K mg base N qual (defScope st) f cdv A outer s H E).nox (defBody st) t)
    (hw : ∀ (H : Hp) (Q : VK) (d : Addr) (ns : List Int) (n : Int), H d = some (.lst (ns.map V.int)) → ns.length ≤ 100000 → (∀ k ∈ ns, 0 ≤ k) → 0 < n → (∀ (r : Int) (ms : List Int), 0 ≤ r → r < n → ms.length ≤ 100000 → (∀ k ∈ ms, 0 ≤ k) → Q (.int r) (upd H d (.lst (ms.map V.int)))) →
      t (Top Q) (L2.start N [.ref d, .int n]) H) :
    FnOk P w K mg base CX0 (k + 1) f fd [p1, p2] spTake0 := by
  refine F.ok SC (fun vs H Q E h => ?_) (fun cdv A outer s H vs Q E hr h => ?_)
  · obtain ⟨d, ns, n, rfl, _⟩ := h
    rfl
  · obtain ⟨d, ns, n, rfl, h1, h2, h3, h4, h5⟩ := h
    exact ⟨t, hbody cdv A outer s H E hr, hw H Q d ns n h1 h2 h3 h4 h5⟩
end
end DL

set_option Elab.async false
set_option linter.all false
set_option maxRecDepth 100000
set_option maxHeartbeats 4000000
set_option autoImplicit false
namespace DL
open PySem PySem.Spec PyProof.Rows L2
theorem lenP_l {P : Dt → Prop} {xs : List Dt} (h : P (.int xs.length)) : LenP P (.list xs) := h
theorem lenP_t {P : Dt → Prop} {xs : List Dt} (h : P (.int xs.length)) : LenP P (.tup xs) := h
theorem take_i {n : Int} {Φ : Dt → Prop} (h0 : 0 < n) (h : ∀ r : Int, 0 ≤ r → r < n → Φ (.int r)) : rTake [.deck, .int n] Φ := ⟨n, rfl, h0, h⟩
/-- the rest once: J is what it is to begin with -/
theorem wp_rest {B : Bs} {t u : TS} {env : List Sl} {D : Ends} (J : List Sl → Prop) (h : ∀ env', J env' → Wp B u env' D) (k : ∀ u', (∀ env', J env' → Wp B u' env' D) → Wp B t env (Sq u' D)) : Wp B t env (Sq u D) := k u h
theorem atI_nn {α : Type} {xs : List α} {i : Int} {v : α} (h0 : 0 ≤ i) (h : xs[i.toNat]? = some v) : L2.atI xs i = some v := by
  have := atI_nat h
  rwa [Int.toNat_of_nonneg h0] at this
theorem leaf_ixS {xs : List Nat} {i : Int} {R : Nat → Prop} (hl : xs.length ≤ 1000000) (h0 : 0 ≤ i) (h1 : i < xs.length) (h : ∀ c, xs[i.toNat]? = some c → R c) :
    ∃ (ys : List Nat) (j : Int) (c : Nat), Dt.str xs = .str ys ∧ Dt.int i = .int j ∧ ys.length ≤ 1000000 ∧ L2.atI ys j = some c ∧ R c := by
  have hi : i.toNat < xs.length := by omega
  exact ⟨xs, i, xs[i.toNat], rfl, rfl, hl, atI_nn h0 (List.getElem?_eq_getElem hi), h _ (List.getElem?_eq_getElem hi)⟩
theorem leaf_ixL {xs : List Dt} {i : Int} {R : Dt → Prop} (h0 : 0 ≤ i) (h1 : i < xs.length) (h : ∀ d, xs[i.toNat]? = some d → R d) :
    ∃ (j : Int) (d : Dt), Dt.int i = .int j ∧ L2.atI xs j = some d ∧ R d := by
  have hi : i.toNat < xs.length := by omega
  exact ⟨i, xs[i.toNat], rfl, atI_nn h0 (List.getElem?_eq_getElem hi), h _ (List.getElem?_eq_getElem hi)⟩
theorem leaf_ixI {xs : List Int} {i : Int} {R : Dt → Prop} (h0 : 0 ≤ i) (h1 : i < xs.length) (h : ∀ d, xs[i.toNat]? = some d → R (.int d)) :
    ∃ (j : Int) (d : Dt), Dt.int i = .int j ∧ L2.atI (xs.map Dt.int) j = some d ∧ R d :=
  leaf_ixL h0 (by rw [List.length_map]; exact h1) fun d hd => by
    rw [List.getElem?_map] at hd
    cases e : xs[i.toNat]? with
    | none => rw [e] at hd; cases hd
    | some z => rw [e] at hd; cases hd; exact h z e
theorem leaf_ixStr {xs : List (List Nat)} {i : Int} {R : Dt → Prop} (h0 : 0 ≤ i) (h1 : i < xs.length) (h : ∀ d, xs[i.toNat]? = some d → R (.str d)) :
    ∃ (j : Int) (d : Dt), Dt.int i = .int j ∧ L2.atI (xs.map Dt.str) j = some d ∧ R d :=
  leaf_ixL h0 (by rw [List.length_map]; exact h1) fun d hd => by
    rw [List.getElem?_map] at hd
    cases e : xs[i.toNat]? with
    | none => rw [e] at hd; cases hd
    | some z => rw [e] at hd; cases hd; exact h z e
theorem sIx_nn (n d : Nat) {i : Int} (h : 0 ≤ i) : HT.sIx n d (some i) = min i.toNat n := by
  show (if i < 0 then (i + (n : Int)).toNat else min i.toNat n) = _
  rw [if_neg (by omega)]
theorem cutL_take {α : Type} (xs : List α) {i : Int} (h : 0 ≤ i) : cutL xs none (some i) = xs.take i.toNat := by
  unfold cutL
  rw [sIx_nn _ _ h, HT.sIx_none, Nat.sub_zero, List.drop_zero]
  by_cases hi : i.toNat ≤ xs.length
  · rw [Nat.min_eq_left hi]
  · rw [Nat.min_eq_right (by omega), List.take_length, List.take_of_length_le (by omega)]
theorem cutL_drop {α : Type} (xs : List α) {i : Int} (h : 0 ≤ i) : cutL xs (some i) none = xs.drop i.toNat := by
  unfold cutL
  rw [sIx_nn _ _ h, HT.sIx_none]
  by_cases hi : i.toNat ≤ xs.length
  · rw [Nat.min_eq_left hi]
    exact List.take_of_length_le (by rw [List.length_drop]; exact Nat.le_refl _)
  · rw [Nat.min_eq_right (by omega), Nat.sub_self, List.take_zero, List.drop_of_length_le (by omega)]
theorem cutL_mid {α : Type} (xs : List α) {i j : Int} (h : 0 ≤ i) (h' : 0 ≤ j) : cutL xs (some i) (some j) = (xs.drop i.toNat).take (j.toNat - i.toNat) := by
  unfold cutL
  rw [sIx_nn _ _ h, sIx_nn _ _ h']
  by_cases hi : i.toNat ≤ xs.length
  · rw [Nat.min_eq_left hi]
    by_cases hj : j.toNat ≤ xs.length
    · rw [Nat.min_eq_left hj]
    · rw [Nat.min_eq_right (by omega), List.take_of_length_le (by rw [List.length_drop]; omega), List.take_of_length_le (by rw [List.length_drop]; omega)]
  · rw [Nat.min_eq_right (Nat.le_of_lt (Nat.lt_of_not_le hi)), List.drop_of_length_le (Nat.le_refl _), List.drop_of_length_le (by omega), List.take_nil, List.take_nil]
theorem cutL_len {α : Type} (xs : List α) (l u : Option Int) : (cutL xs l u).length ≤ xs.length := by
  unfold cutL
  rw [List.length_take, List.length_drop]
  omega
theorem cutL_all {α : Type} (xs : List α) : cutL xs none none = xs := by
  unfold cutL
  rw [HT.sIx_none, HT.sIx_none, Nat.sub_zero, List.drop_zero, List.take_length]
theorem ixN_nn {n : Nat} {k : Int} (h0 : 0 ≤ k) (h1 : k < n) : ixN n k = some k.toNat := by
  unfold ixN
  rw [if_pos h0, if_pos h1]
theorem leaf_set {n : Nat} {k : Int} {R : Nat → Prop} (h0 : 0 ≤ k) (h1 : k < n) (h : R k.toNat) : ∃ (j : Int) (m : Nat), Dt.int k = .int j ∧ ixN n j = some m ∧ R m := ⟨k, k.toNat, rfl, ixN_nn h0 h1, h⟩
theorem toNat_nat (n : Nat) : ((n : Int)).toNat = n := Int.toNat_natCast n
/-- a comprehension that keeps all, one value each -/
theorem ct_map {B : Bs} {te : TE} {env : List Sl} {j : Nat} {xs : List Dt} {f : Dt → Dt} {PL : List Dt → Prop} (hl : xs.length ≤ 1000000) (h : ∀ (i : Nat) (d : Dt), xs[i]? = some d → Ev B true te (env.set j (.dat d)) (fun y => y = f d)) (hP : PL (xs.map f)) :
    ∃ INV : Nat → List Dt → Prop, INV 0 [] ∧ (∀ i d, xs[i]? = some d → CT B tYes te env j INV i d) ∧ ∀ acc, INV xs.length acc → PL acc := by
  refine ⟨fun i acc => acc = (xs.take i).map f, by simp, fun i d hd acc ha => et_yes (ev_imp (h i d hd) fun y hy => ?_), fun acc ha => ?_⟩
  · subst hy ha
    have hi : i < xs.length := (List.getElem?_eq_some_iff.mp hd).1
    refine ⟨by rw [List.length_map, List.length_take]; omega, ?_⟩
    dsimp only
    rw [List.take_add_one, hd]
    simp
  · rw [ha, List.take_length]
    exact hP
theorem ct_mapI {B : Bs} {te : TE} {env : List Sl} {j : Nat} {xs : List Int} {f : Int → Dt} {PL : List Dt → Prop} (hl : xs.length ≤ 1000000) (h : ∀ (i : Nat) (z : Int), xs[i]? = some z → Ev B true te (env.set j (.dat (.int z))) (fun y => y = f z)) (hP : PL (xs.map f)) :
    ∃ INV : Nat → List Dt → Prop, INV 0 [] ∧ (∀ i d, (xs.map Dt.int)[i]? = some d → CT B tYes te env j INV i d) ∧ ∀ acc, INV (xs.map Dt.int).length acc → PL acc := by
  refine ⟨fun i acc => acc = (xs.take i).map f, by simp, fun i d hd acc ha => ?_, fun acc ha => ?_⟩
  · rw [List.getElem?_map] at hd
    cases e : xs[i]? with
    | none => rw [e] at hd; cases hd
    | some z =>
      rw [e] at hd
      cases hd
      refine et_yes (ev_imp (h i z e) fun y hy => ?_)
      subst hy ha
      have hi : i < xs.length := (List.getElem?_eq_some_iff.mp e).1
      refine ⟨by rw [List.length_map, List.length_take]; omega, ?_⟩
      dsimp only
      rw [List.take_add_one, e]
      simp
  · rw [List.length_map] at ha
    rw [ha, List.take_length]
    exact hP
/-- over a text, one value for each sign -/
theorem ct_mapS {B : Bs} {te : TE} {env : List Sl} {j : Nat} {z : List Nat} {f : Nat → Dt} {PL : List Dt → Prop} (hl : z.length ≤ 1000000) (h : ∀ (i c : Nat), z[i]? = some c → Ev B true te (env.set j (.dat (.str [c]))) (fun y => y = f c)) (hP : PL (z.map f)) :
    ∃ INV : Nat → List Dt → Prop, INV 0 [] ∧ (∀ (i c : Nat), z[i]? = some c → CT B tYes te env j INV i (.str [c])) ∧ ∀ acc, INV z.length acc → PL acc := by
  refine ⟨fun i acc => acc = (z.take i).map f, by simp, fun i d hd acc ha => et_yes (ev_imp (h i d hd) fun y hy => ?_), fun acc ha => ?_⟩
  · subst hy ha
    have hi : i < z.length := (List.getElem?_eq_some_iff.mp hd).1
    refine ⟨by rw [List.length_map, List.length_take]; omega, ?_⟩
    dsimp only
    rw [List.take_add_one, hd]
    simp
  · rw [ha, List.take_length]
    exact hP
/-- over a range, tested -/
theorem ct_range {B : Bs} {tt : TT} {te : TE} {env : List Sl} {j n : Nat} {lo : Int} {p : Int → Bool} {f : Int → Dt} {PL : List Dt → Prop} (hl : n ≤ 1000000) (h : ∀ i : Nat, i < n → Et B tt (env.set j (.dat (.int (lo + i)))) (p (lo + i) = true ∧ Ev B true te (env.set j (.dat (.int (lo + i)))) (fun y => y = f (lo + i))) (p (lo + i) = false))
    (hP : PL ((((List.range n).map fun i : Nat => lo + (i : Int)).filter p).map f)) :
    ∃ INV : Nat → List Dt → Prop, INV 0 [] ∧ (∀ i : Nat, i < n → CT B tt te env j INV i (.int (lo + i))) ∧ ∀ acc, INV n acc → PL acc := by
  refine ⟨fun i acc => acc = (((List.range i).map fun i : Nat => lo + (i : Int)).filter p).map f, by simp, fun i hi acc ha => et_imp (h i hi) (fun ⟨hp, he⟩ => ev_imp he fun y hy => ?_) (fun hp => ?_), fun acc ha => by rw [ha]; exact hP⟩
  · subst hy ha
    refine ⟨?_, ?_⟩
    · rw [List.length_map]
      have := List.length_filter_le p ((List.range i).map fun i : Nat => lo + (i : Int))
      rw [List.length_map, List.length_range] at this
      omega
    · dsimp only
      rw [List.range_succ, List.map_append, List.filter_append, List.map_append]
      simp [hp]
  · subst ha
    rw [List.range_succ, List.map_append, List.filter_append, List.map_append]
    simp [hp]
/-- over range(n), tested -/
theorem ct_range0 {B : Bs} {tt : TT} {te : TE} {env : List Sl} {j n : Nat} {p : Int → Bool} {f : Int → Dt} {PL : List Dt → Prop} (hl : n ≤ 1000000) (h : ∀ i : Nat, i < n → Et B tt (env.set j (.dat (.int i))) (p i = true ∧ Ev B true te (env.set j (.dat (.int i))) (fun y => y = f i)) (p i = false))
    (hP : PL ((((List.range n).map fun i : Nat => (i : Int)).filter p).map f)) :
    ∃ INV : Nat → List Dt → Prop, INV 0 [] ∧ (∀ i : Nat, i < n → CT B tt te env j INV i (.int i)) ∧ ∀ acc, INV n acc → PL acc := by
  have := ct_range (B := B) (tt := tt) (te := te) (env := env) (j := j) (n := n) (lo := 0) (p := p) (f := f) (PL := PL) hl (fun i hi => by rw [Int.zero_add]; exact h i hi) (by simpa only [Int.zero_add] using hP)
  simpa only [Int.zero_add] using this
theorem eqP_int {P : Dt → Prop} {i j : Int} (h : P (.bl (decide (i = j)))) : EqP false P (.int i) (.int j) := by show P (.bl (false ^^ _)); rw [Bool.false_xor]; exact h
theorem eqP_str {P : Dt → Prop} {i j : List Nat} (h : P (.bl (decide (i = j)))) : EqP false P (.str i) (.str j) := by show P (.bl (false ^^ _)); rw [Bool.false_xor]; exact h
theorem eqP_bl {P : Dt → Prop} {i j : Bool} (h : P (.bl (decide (i = j)))) : EqP false P (.bl i) (.bl j) := by show P (.bl (false ^^ _)); rw [Bool.false_xor]; exact h
theorem neP_int {P : Dt → Prop} {i j : Int} (h : P (.bl (!decide (i = j)))) : EqP true P (.int i) (.int j) := by show P (.bl (true ^^ _)); rw [Bool.true_xor]; exact h
theorem neP_str {P : Dt → Prop} {i j : List Nat} (h : P (.bl (!decide (i = j)))) : EqP true P (.str i) (.str j) := by show P (.bl (true ^^ _)); rw [Bool.true_xor]; exact h
theorem neP_bl {P : Dt → Prop} {i j : Bool} (h : P (.bl (!decide (i = j)))) : EqP true P (.bl i) (.bl j) := by show P (.bl (true ^^ _)); rw [Bool.true_xor]; exact h
end DL

set_option Elab.async false
set_option linter.all false
set_option maxRecDepth 100000
set_option maxHeartbeats 4000000
set_option autoImplicit false
namespace DL
open PySem PySem.Spec PyProof.Rows L2
local macro_rules | `(tactic| walk_at "lit") => `(tactic| fail "lit")
local macro_rules | `(tactic| walk_at "side") => `(tactic| first | omega | (simp only [CMul, CDiv, CPow, List.length_nil, List.length_cons, List.length_map, List.length_append, List.length_replicate]; omega) | decide | (simp; done) | (simp; omega))
local macro_rules | `(tactic| walk_at "es1") => `(tactic| first
  | ((with_reducible refine es_own (xs := ?dld) ?dlh ?_); (case dlh => exact rfl))
  | ((with_reducible refine es_el ?_); walk_at "el1")
  | with_reducible refine es_ev ?_)
local macro_rules | `(tactic| walk_at "el1") => `(tactic| first
  | with_reducible refine el_lst ?_
  | with_reducible refine el_cat ?_
  | with_reducible refine el_rep ?_
  | with_reducible refine el_listOf ?_
  | with_reducible refine el_revL ?_
  | with_reducible refine el_slL ?_
  | with_reducible refine el_sortedI ?_
  | with_reducible refine el_listRg1 ?_
  | with_reducible refine el_sortedSetS ?_
  | with_reducible refine el_sortedSetT ?_
  | with_reducible refine el_call ?_)
local macro_rules | `(tactic| walk_at "et1") => `(tactic| first
  | with_reducible refine et_ib ?_
  | with_reducible refine et_eq ?_
  | with_reducible refine et_ne ?_
  | with_reducible refine et_and ?_
  | with_reducible refine et_or ?_
  | with_reducible refine et_not ?_
  | with_reducible refine et_ltS ?_
  | with_reducible refine et_gtS ?_
  | with_reducible refine et_leS ?_
  | with_reducible refine et_geS ?_
  | with_reducible refine et_yes ?_
  | with_reducible refine et_test ?_
  | with_reducible refine et_B ?_)
local macro_rules | `(tactic| walk_at "ev1") => `(tactic| first
  | ((with_reducible refine ev_var (d := ?dld) ?dlh ?_); (case dlh => exact rfl))
  | with_reducible refine ev_int ?_
  | with_reducible refine ev_ii ?_
  | with_reducible refine ev_iiC ?_
  | ((with_reducible refine ev_own (xs := ?dld) ?dlh ?_); (case dlh => exact rfl))
  | ((with_reducible refine ev_str (x := ?dld) ?dlh ?_); (case dlh => walk_at "lit"))
  | with_reducible refine ev_int1 ?_
  | with_reducible refine ev_call ?_
  | with_reducible refine ev_callN ?_
  | with_reducible refine ev_callS ?_
  | ((with_reducible refine ev_what (by assumption) (by exact rfl) ?_))
  | with_reducible refine ev_lenS ?_
  | ((with_reducible refine ev_lenRaw (a := ?dla) (ns := ?dln) ?dlh ?dls ?_); (case dlh => exact rfl); (case dls => assumption))
  | with_reducible refine ev_lenL ?_
  | with_reducible refine ev_ixS ?_
  | ((with_reducible refine ev_ixRaw (a := ?dla) (ns := ?dln) ?dlh ?dls ?_); (case dlh => exact rfl); (case dls => assumption))
  | with_reducible refine ev_ixL ?_
  | with_reducible refine ev_ixT ?_
  | with_reducible refine ev_slS ?_
  | with_reducible refine ev_addS ?_
  | with_reducible refine ev_mulS ?_
  | with_reducible refine ev_revS ?_
  | with_reducible refine ev_bl ?_
  | with_reducible refine ev_non ?_
  | with_reducible refine ev_ib ?_
  | with_reducible refine ev_eq ?_
  | with_reducible refine ev_ne ?_
  | with_reducible refine ev_neg ?_
  | with_reducible refine ev_tup ?_
  | with_reducible refine ev_abs ?_
  | with_reducible refine ev_gcd ?_
  | with_reducible refine ev_index ?_
  | with_reducible refine ev_max2 ?_
  | with_reducible refine ev_min2 ?_
  | with_reducible refine ev_sum ?_
  | with_reducible refine ev_all ?_
  | with_reducible refine ev_any ?_
  | with_reducible refine ev_if ?_
  | with_reducible refine ev_notV ?_
  | with_reducible refine ev_andV ?_
  | with_reducible refine ev_orV ?_
  | with_reducible refine ev_isNn ?_
  | with_reducible refine ev_notNn ?_
  | with_reducible refine ev_isBl ?_
  | with_reducible refine ev_notBl ?_
  | with_reducible refine ev_isV ?_
  | with_reducible refine ev_isiT ?_
  | with_reducible refine ev_isi ?_
  | with_reducible refine ev_chainS ?_
  | with_reducible refine ev_chainI ?_
  | with_reducible refine ev_ltS ?_
  | with_reducible refine ev_leS ?_
  | with_reducible refine ev_in ?_
  | with_reducible refine ev_join ?_
  | with_reducible refine ev_maxL ?_
  | with_reducible refine ev_minL ?_
  | with_reducible refine ev_eqD ?_
  | with_reducible refine ev_neD ?_
  | ((with_reducible refine ev_el ?_); walk_at "el1"))
local macro_rules | `(tactic| walk_at "wp1") => `(tactic| first
  | with_reducible refine wp_seq ?_
  | with_reducible refine nx_sq ?_
  | ((with_reducible refine wp_asgO ?_); first | with_reducible refine el_lst ?_ | with_reducible refine el_rep ?_)
  | with_reducible refine wp_asg ?_
  | with_reducible refine wp_if ?_
  | ((with_reducible refine wp_aug (a := ?dld) ?dlh ?_); (case dlh => exact rfl))
  | ((with_reducible refine wp_append (xs := ?dld) ?dlh ?_); (case dlh => exact rfl))
  | ((with_reducible refine wp_augL (xs := ?dld) ?dlh ?_); (case dlh => exact rfl))
  | ((with_reducible refine wp_setL (xs := ?dld) ?dlh ?_); (case dlh => exact rfl))
  | ((with_reducible refine wp_reverse (xs := ?dld) ?dlh ?_); (case dlh => exact rfl))
  | with_reducible refine wp_par ?_
  | with_reducible refine wp_try ?_
  | ((with_reducible refine wp_raise ?dlx ?_); (case dlx => assumption))
  | with_reducible refine wp_tup2 ?_
  | with_reducible refine wp_drop ?_
  | with_reducible refine wp_next ?_
  | with_reducible refine wp_break ?_
  | with_reducible refine wp_continue ?_
  | (refine wp_ret (Φ := ?dld) ?dlr ?_; (case dlr => assumption)))
local macro_rules | `(tactic| walk_at "lf1") => `(tactic| first
  | with_reducible refine eqT_int ?_ ?_
  | with_reducible refine eqT_str ?_ ?_
  | with_reducible refine eqT_bl ?_ ?_
  | with_reducible refine eqP_int ?_
  | with_reducible refine eqP_str ?_
  | with_reducible refine eqP_bl ?_
  | with_reducible refine neP_int ?_
  | with_reducible refine neP_str ?_
  | with_reducible refine neP_bl ?_
  | with_reducible refine lenP_l ?_
  | with_reducible refine lenP_t ?_
  | with_reducible refine ⟨_, _, rfl, rfl, ?_⟩
  | with_reducible refine ⟨_, rfl, ?_⟩
  | with_reducible refine ⟨_, _, rfl, ?_⟩
  | with_reducible refine Or.inl ⟨_, rfl, ?_⟩
  | with_reducible refine Or.inr ⟨_, rfl, ?_⟩
  | ((with_reducible refine And.intro ?dls ?_); (case dls => walk_at "side")))
local macro_rules | `(tactic| walk_at "w1") => `(tactic| first
  | ((with_reducible show Ev _ _ _ _ _); walk_at "ev1")
  | ((with_reducible show Ea _ _ _ _ _); first | with_reducible refine ea_cons ?_ | with_reducible refine ea_nil ?_)
  | ((with_reducible show Et _ _ _ _ _); walk_at "et1")
  | ((with_reducible show Es _ _ _ _); walk_at "es1")
  | ((with_reducible show Eo _ _ _ _); first | with_reducible refine eo_none ?_ | with_reducible refine eo_some ?_)
  | ((with_reducible show El _ _ _ _); walk_at "el1")
  | walk_at "wp1"
  | walk_at "lf1")
local macro_rules | `(tactic| walk_at "w") => `(tactic| repeat walk_at "w1")
theorem lit_e : ("" : Str) = S [] := by decide +kernel
local macro_rules | `(tactic| walk_at "lit") => `(tactic| with_reducible exact lit_e)

/-! ### _law_word -/
def t_law_word (K : PySem.W.Frag) : TS :=
  (tSeq (tAsg (tC (.str "")) (gName 3))
  (tSeq (tAsg (tC (.int 0)) (gName 4))
  (tSeq (tFor (iRng1 (tCons (tCall (spD 2 rTake) [] E0 (tCons (tVar 0) (tCons (tOp (rI0 fun i j => .int (i + j)) (tVar 2) (tC (.int 1))) tNil))) tNil)) (gName 5) (tSeq (tIfS (tTest (tOp rEq (tOp (rI (fun _ j => 0 < j) fun i j => .int (i % j)) (tCB rInt1 (tCons (tVar 5) tNil)) (tC (.int 4))) (tC (.int 0)))) (tAsg (tCall (spD 2 rTake) [] E0 (tCons (tVar 0) (tCons (tC (.int 1000003)) tNil))) (gName 4)) tNext)
  (tSeq (tAsg (tOp rAddS (tVar 3) (tOp rIxS (tVar 1) (tOp (rI (fun _ j => 0 < j) fun i j => .int (i % j)) (tCB rInt1 (tCons (tVar 4) tNil)) (tCB rLenS (tCons (tVar 1) tNil))))) (gName 3))
  (tAsg (tOp (rI CDiv fun i j => .int (i / j)) (tVar 4) (tCB rLenS (tCons (tVar 1) tNil))) (gName 4)))))
  (tRet (tVar 3)))))
/-- a word over the letters comes, of at most so many -/
def rWord : Rd1 := fun args Φ => ∃ (l : List Nat) (n : Int), args = [.deck, .str l, .int n] ∧ 0 < l.length ∧ l.length ≤ 100 ∧ 0 ≤ n ∧ n ≤ 100000 ∧ ∀ w : List Nat, (∀ c ∈ w, c ∈ l) → w.length ≤ n.toNat → Φ (.str w)
theorem word_i {l : List Nat} {n : Int} {Φ : Dt → Prop} (h1 : 0 < l.length) (h2 : l.length ≤ 100) (h3 : 0 ≤ n ∧ n ≤ 100000) (h : ∀ w : List Nat, (∀ c ∈ w, c ∈ l) → w.length ≤ n.toNat → Φ (.str w)) : rWord [.deck, .str l, .int n] Φ := ⟨l, n, rfl, h1, h2, h3.1, h3.2, h⟩
theorem w_law_word {K : PySem.W.Frag} : WpD (t_law_word K) 6 rWord := by
  rintro B Q args Φ ⟨l, n, rfl, h1, h2, h3, h4, hΦ⟩ hr
  show Wp B (t_law_word K) [.dat .deck, .dat (.str l), .dat (.int n), .no, .no, .no] (Top Q)
  unfold t_law_word
  walk_at "w"
  refine wp_forR1 ?_
  walk_at "w"
  refine take_i (by omega) fun k k0 k1 => ?_
  walk_at "w"
  refine ⟨fun i env' => ∃ (w : List Nat) (r : Int) (x : Sl), env' = [.dat .deck, .dat (.str l), .dat (.int n), .dat (.str w), .dat (.int r), x] ∧ (∀ c ∈ w, c ∈ l) ∧ w.length ≤ i ∧ 0 ≤ r, ?_, ?_, ?_⟩
  · exact ⟨[], 0, _, rfl, by simp, by simp, by omega⟩
  · rintro i d env' hi rfl ⟨w, r, x, rfl, hw, hl, hr0⟩
    refine wp_seq ?_
    refine wp_rest (fun e => ∃ r : Int, e = [.dat .deck, .dat (.str l), .dat (.int n), .dat (.str w), .dat (.int r), .dat (.int i)] ∧ 0 ≤ r) ?_ (fun u hu => ?_)
    · rintro e ⟨r, rfl, hr0⟩
      walk_at "w"
      have hm1 : 0 ≤ r % (l.length : Int) := Int.emod_nonneg _ (by omega)
      have hm2 : r % (l.length : Int) < l.length := Int.emod_lt_of_pos _ (by omega)
      refine leaf_ixS (by omega) hm1 hm2 fun c hc => ?_
      walk_at "w"
      refine nx_lo ⟨w ++ [c], r / l.length, _, rfl, ?_, ?_, Int.ediv_nonneg hr0 (by omega)⟩
      · intro d hd
        rcases List.mem_append.mp hd with h | h
        · exact hw d h
        · rw [List.mem_singleton.mp h]
          exact List.mem_of_getElem? hc
      · rw [List.length_append, List.length_singleton]
        omega
    · walk_at "w"
      · intro hz
        walk_at "w"
        refine take_i (by omega) fun z z0 z1 => ?_
        walk_at "w"
        exact hu _ ⟨z, rfl, z0⟩
      · intro hz
        walk_at "w"
        exact hu _ ⟨r, rfl, hr0⟩
  · rintro env' ⟨w, r, x, rfl, hw, hl, hr0⟩
    walk_at "w"
    exact hΦ w hw (by omega)

/-! ### _law_long -/
def t_law_long (K : PySem.W.Frag) : TS :=
  (tSeq (tAsg (tCall (spD 3 rWord) [] E0 (tCons (tVar 0) (tCons (tVar 1) (tCons (tC (.int 6)) tNil)))) (gName 3))
  (tSeq (tFor (iRng1 (tCons (tOp (rI0 fun i j => .int (i + j)) (tC (.int 1)) (tCall (spD 2 rTake) [] E0 (tCons (tVar 0) (tCons (tC (.int 6)) tNil)))) tNil)) (gName 4) (tSeq (tAsg (tCall (spD 2 rTake) [] E0 (tCons (tVar 0) (tCons (tC (.int 5)) tNil))) (gName 5))
  (tSeq (tAsg (tCall (spD 3 rWord) [] E0 (tCons (tVar 0) (tCons (tVar 1) (tCons (tC (.int 7)) tNil)))) (gName 6))
  (tSeq (tIfS (tTest (tOp rEq (tVar 5) (tC (.int 0)))) (tAsg (tOp rAddS (tVar 3) (tOp rMulS (tVar 6) (tOp (rI0 fun i j => .int (i + j)) (tC (.int 1)) (tCall (spD 2 rTake) [] E0 (tCons (tVar 0) (tCons (tC (.int 7)) tNil)))))) (gName 3)) (tIfS (tTest (tOp rEq (tVar 5) (tC (.int 1)))) (tAsg (tOp rAddS (tOp rAddS (tVar 3) (tVar 6)) (tVar 3)) (gName 3)) (tIfS (tTest (tOp rEq (tVar 5) (tC (.int 2)))) (tAsg (tOp rAddS (tOp rAddS (tVar 3) (tVar 3)) (tVar 6)) (gName 3)) (tIfS (tTest (tOp rEq (tVar 5) (tC (.int 3)))) (tAsg (tOp rAddS (tVar 3) (tRevS (tVar 3))) (gName 3)) (tAsg (tOp rAddS (tVar 6) (tVar 3)) (gName 3))))))
  (tAsg (tSl rSlS (tVar 3) tNoPart (tPart (tVar 2))) (gName 3))))))
  (tRet (tVar 3))))
def rLong : Rd1 := fun args Φ => ∃ (l : List Nat) (n : Int), args = [.deck, .str l, .int n] ∧ 0 < l.length ∧ l.length ≤ 100 ∧ 0 ≤ n ∧ n ≤ 10000 ∧ ∀ w : List Nat, (∀ c ∈ w, c ∈ l) → w.length ≤ n.toNat → Φ (.str w)
theorem long_i {l : List Nat} {n : Int} {Φ : Dt → Prop} (h1 : 0 < l.length) (h2 : l.length ≤ 100) (h3 : 0 ≤ n ∧ n ≤ 10000) (h : ∀ w : List Nat, (∀ c ∈ w, c ∈ l) → w.length ≤ n.toNat → Φ (.str w)) : rLong [.deck, .str l, .int n] Φ := ⟨l, n, rfl, h1, h2, h3.1, h3.2, h⟩
theorem mem_app {l a b : List Nat} (ha : ∀ c ∈ a, c ∈ l) (hb : ∀ c ∈ b, c ∈ l) : ∀ c ∈ a ++ b, c ∈ l := fun c hc => (List.mem_append.mp hc).elim (ha c) (hb c)
theorem mem_rep {l a : List Nat} {n : Nat} (ha : ∀ c ∈ a, c ∈ l) : ∀ c ∈ (List.replicate n a).flatten, c ∈ l := fun c hc => by
  obtain ⟨x, hx, hcx⟩ := List.mem_flatten.mp hc
  rw [List.eq_of_mem_replicate hx] at hcx
  exact ha c hcx
theorem len_rep {α : Type} (n : Nat) (a : List α) : ((List.replicate n a).flatten).length = n * a.length := by
  rw [List.length_flatten, List.map_replicate, List.sum_replicate_nat]
theorem w_law_long {K : PySem.W.Frag} : WpD (t_law_long K) 7 rLong := by
  rintro B Q args Φ ⟨l, n, rfl, h1, h2, h3, h4, hΦ⟩ hr
  show Wp B (t_law_long K) [.dat .deck, .dat (.str l), .dat (.int n), .no, .no, .no, .no] (Top Q)
  unfold t_law_long
  walk_at "w"
  refine word_i (by omega) (by omega) (by omega) fun w hw hl => ?_
  walk_at "w"
  refine wp_forR1 ?_
  walk_at "w"
  refine take_i (by omega) fun k k0 k1 => ?_
  walk_at "w"
  refine ⟨fun i env' => ∃ (w : List Nat) (x y z : Sl), env' = [.dat .deck, .dat (.str l), .dat (.int n), .dat (.str w), x, y, z] ∧ (∀ c ∈ w, c ∈ l) ∧ w.length ≤ 10006 ∧ (0 < i → w.length ≤ n.toNat), ?_, ?_, ?_⟩
  · exact ⟨w, _, _, _, rfl, hw, by have : Int.toNat 6 = 6 := rfl; omega, fun h => absurd h (by omega)⟩
  · rintro i d env' hi rfl ⟨w, x, y, z, rfl, hw, hl, -⟩
    walk_at "w"
    refine take_i (by omega) fun way w0 w1 => ?_
    walk_at "w"
    refine word_i (by omega) (by omega) (by omega) fun p hp hpl => ?_
    have hpl' : p.length ≤ 7 := hpl
    refine nx_sq ?_
    refine wp_seq ?_
    refine wp_rest (fun e => ∃ w : List Nat, e = [.dat .deck, .dat (.str l), .dat (.int n), .dat (.str w), .dat (.int i), .dat (.int way), .dat (.str p)] ∧ (∀ c ∈ w, c ∈ l) ∧ w.length ≤ 100000) ?_ (fun u hu => ?_)
    · rintro e ⟨w, rfl, hw, hl⟩
      walk_at "w"
      rw [cutL_take _ h3]
      refine nx_lo ⟨_, _, _, _, rfl, fun c hc => hw c (List.mem_of_mem_take hc), ?_, fun _ => ?_⟩
      · rw [List.length_take]; omega
      · rw [List.length_take]; omega
    · walk_at "w"
      · intro hz
        walk_at "w"
        refine take_i (by omega) fun r r0 r1 => ?_
        walk_at "w"
        refine ⟨?_, ?_⟩
        · have : p.length * (1 + r).toNat ≤ 7 * 7 := Nat.mul_le_mul hpl' (by omega)
          omega
        have hrep : (List.replicate (1 + r).toNat p).flatten.length ≤ 49 := by
          rw [len_rep]
          have : (1 + r).toNat * p.length ≤ 7 * 7 := Nat.mul_le_mul (by omega) hpl'
          omega
        walk_at "w"
        exact hu _ ⟨_, rfl, mem_app hw (mem_rep hp), by rw [List.length_append]; omega⟩
      · intro hz
        walk_at "w"
        · intro hz
          walk_at "w"
          exact hu _ ⟨_, rfl, mem_app (mem_app hw hp) hw, by rw [List.length_append, List.length_append]; omega⟩
        · intro hz
          walk_at "w"
          · intro hz
            walk_at "w"
            exact hu _ ⟨_, rfl, mem_app (mem_app hw hw) hp, by rw [List.length_append, List.length_append]; omega⟩
          · intro hz
            walk_at "w"
            · intro hz
              walk_at "w"
              exact hu _ ⟨_, rfl, mem_app hw (fun c hc => hw c (List.mem_reverse.mp hc)), by rw [List.length_append, List.length_reverse]; omega⟩
            · intro hz
              walk_at "w"
              exact hu _ ⟨_, rfl, mem_app hp hw, by rw [List.length_append]; omega⟩
  · rintro env' ⟨w, x, y, z, rfl, hw, hl, hm⟩
    walk_at "w"
    exact hΦ w hw (hm (by omega))

/-! ### _law_divisor -/
def t_law_divisor (K : PySem.W.Frag) : TS :=
  (tSeq (tAsg (tCB rAbs (tCons (tVar 0) tNil)) (gName 2))
  (tSeq (tAsg (tCB rAbs (tCons (tVar 1) tNil)) (gName 3))
  (tSeq (tFor (iRng1 (tCons (tC (.int 20000)) tNil)) (gName 4) (tSeq (tIfS (tTest (tOp rEq (tVar 3) (tC (.int 0)))) (tRet (tVar 2)) tNext)
  (tPar 2 3 (tCons (tVar 3) (tCons (tOp (rI (fun _ j => 0 < j) fun i j => .int (i % j)) (tCB rInt1 (tCons (tVar 2) tNil)) (tVar 3)) tNil)))))
  (tRet (tVar 2)))))
def rDivisor : Rd1 := fun args Φ => ∃ a b : Int, args = [.int a, .int b] ∧ b.natAbs < 20000 ∧ Φ (.int (Int.gcd a b))
theorem divisor_i {a b : Int} {Φ : Dt → Prop} (h1 : b.natAbs < 20000) (h : Φ (.int (Int.gcd a b))) : rDivisor [.int a, .int b] Φ := ⟨a, b, rfl, h1, h⟩
theorem abs_natAbs (a : Int) : (if a < 0 then -a else a) = (a.natAbs : Int) := by split <;> omega
theorem w_law_divisor {K : PySem.W.Frag} : WpD (t_law_divisor K) 5 rDivisor := by
  rintro B Q args Φ ⟨a, b, rfl, h1, hΦ⟩ hr
  show Wp B (t_law_divisor K) [.dat (.int a), .dat (.int b), .no, .no, .no] (Top Q)
  unfold t_law_divisor
  walk_at "w"
  rw [abs_natAbs, abs_natAbs]
  refine wp_forR1 ?_
  walk_at "w"
  refine ⟨fun i e => ∃ (l r : Nat) (x : Sl), e = [.dat (.int a), .dat (.int b), .dat (.int l), .dat (.int r), x] ∧ Nat.gcd l r = Int.gcd a b ∧ (i + r ≤ b.natAbs), ?_, ?_, ?_⟩
  · exact ⟨a.natAbs, b.natAbs, _, rfl, rfl, by omega⟩
  · rintro i d e hi rfl ⟨l, r, x, rfl, hg, hb⟩
    walk_at "w"
    · intro hz
      walk_at "w"
      have : r = 0 := by omega
      subst this
      rw [Nat.gcd_zero_right] at hg
      rw [hg]
      exact hΦ
    · intro hz
      walk_at "w"
      refine nx_lo ⟨r, l % r, _, rfl, ?_, ?_⟩
      · rw [← hg, Nat.gcd_comm l r, Nat.gcd_rec r l, Nat.gcd_comm]
      · have : l % r < r := Nat.mod_lt _ (by omega)
        omega
  · rintro e ⟨l, r, x, rfl, hg, hb⟩
    exfalso
    have : Int.toNat 20000 = 20000 := rfl
    omega

/-! ### _law_take -/
def t_law_take (K : PySem.W.Frag) : TS :=
  (tSeq (tIfS (tTest (tOp rEq (tCB (rLenL K) (tCons (tVar 0) tNil)) (tC (.int 0)))) (tRet (tC (.int 0))) tNext)
  (tRet (tOp (rI (fun _ j => 0 < j) fun i j => .int (i % j)) (tCB rInt1 (tCons (tBM0 K "list" rPop (tVar 0)) tNil)) (tVar 1))))
theorem w_law_take {K : PySem.W.Frag} : ∀ (H : Hp) (Q : VK) (d : Addr) (ns : List Int) (n : Int), H d = some (.lst (ns.map V.int)) → ns.length ≤ 100000 → (∀ k ∈ ns, 0 ≤ k) → 0 < n → (∀ (r : Int) (ms : List Int), 0 ≤ r → r < n → ms.length ≤ 100000 → (∀ k ∈ ms, 0 ≤ k) → Q (.int r) (upd H d (.lst (ms.map V.int)))) →
      t_law_take K (Top Q) (L2.start ["deck", "many"] [.ref d, .int n]) H := by
  intro H Q d ns n h1 h2 h3 h4 hq
  refine ⟨.ref d, rfl, d, _, rfl, .inl (SqL.of h1), rfl, _, rfl, ?_⟩
  refine ite2 (fun he => ?_) (fun he => ?_)
  · have e0 : ((ns.map V.int).length : Int) = 0 := V.int.inj (of_decide_eq_true he)
    rw [List.length_map] at e0
    have := hq 0 ns (Int.le_refl 0) h4 h2 h3
    have eH : upd H d (.lst (ns.map V.int)) = H := by
      funext b
      by_cases e : b = d
      · rw [e, upd_same, h1]
      · rw [upd_ne e]
    rw [eH] at this
    exact this
  · have hne : ns ≠ [] := fun z => by
      subst z
      exact he (decide_eq_true rfl)
    have hsp : ns.dropLast ++ [ns.getLast hne] = ns := List.dropLast_concat_getLast hne
    have hlast : (ns.map V.int)[(ns.map V.int).length - 1]? = some (.int (ns.getLast hne)) := by
      rw [List.length_map, List.getElem?_map, ← List.getLast?_eq_getElem?, List.getLast?_eq_some_getLast hne]
      rfl
    have h0 : 0 ≤ ns.getLast hne := h3 _ (List.getLast_mem hne)
    refine ⟨.ref d, rfl, .inl ⟨rfl, _, SqL.of h1⟩, d, _, _, rfl, rfl, h1, hlast, .inl ⟨_, rfl, .int n, rfl, _, _, rfl, rfl, h4, ?_⟩⟩
    rw [← List.map_dropLast]
    exact hq _ ns.dropLast (Int.emod_nonneg _ (by omega)) (Int.emod_lt_of_pos _ h4) (by rw [List.length_dropLast]; omega) (fun k hk => h3 k (List.dropLast_subset _ hk))

/-! ### _law_deck -/
def t_law_deck (K : PySem.W.Frag) : TS :=
  (tSeq (tAsg (tLst tNil) (gName 3))
  (tSeq (tAsg (tOp (rI0 fun i j => .int (i + j)) (tC (.int 19)) (tCB (rLenL K) (tCons (tVar 0) tNil))) (gName 4))
  (tSeq (tFor (iRng1 (tCons (tVar 1) tNil)) (gName 5) (tSeq (tAsg (tC (.int 0)) (gName 6))
  (tSeq (tIfS (tTest (tOp (rI0 fun i j => .bl (decide (i < j))) (tVar 5) (tCB (rLenL K) (tCons (tVar 0) tNil)))) (tAsg (tOp (rIxL K) (tVar 0) (tVar 5)) (gName 6)) tNext)
  (tSeq (tAsg (tCB rAbs (tCons (tVar 6) tNil)) (gName 7))
  (tIfS (tTest (tOp (rI0 fun i j => .bl (decide (j ≤ i))) (tVar 7) (tOp (rI CPow fun i j => .int (i ^ j.toNat)) (tC (.int 10)) (tC (.int 30))))) (tFor (iRng1 (tCons (tVar 2) tNil)) (gName 8) (tSeq (tDrop (tBM K "list" rAppend (tVar 3) (tCons (tOp (rI (fun _ j => 0 < j) fun i j => .int (i % j)) (tCB rInt1 (tCons (tVar 7) tNil)) (tC (.int 1000003))) tNil)))
  (tAsg (tOp (rI CDiv fun i j => .int (i / j)) (tVar 7) (tC (.int 1000003))) (gName 7)))) (tSeq (tAsg (tOp (rI (fun _ j => 0 < j) fun i j => .int (i % j)) (tCB rInt1 (tCons (tOp (rI0 fun i j => .int (i + j)) (tOp (rI0 fun i j => .int (i + j)) (tOp (rI0 fun i j => .int (i + j)) (tOp (rI CMul fun i j => .int (i * j)) (tVar 4) (tC (.int 48271))) (tOp (rI CMul fun i j => .int (i * j)) (tC (.int 5)) (tVar 7))) (tOp (rI CMul fun i j => .int (i * j)) (tC (.int 2)) (tCB rInt1 (tCons (tOp (rI0 fun i j => .bl (decide (i < j))) (tVar 6) (tC (.int 0))) tNil)))) (tVar 5)) tNil)) (tC (.int 2147483647))) (gName 4))
  (tFor (iRng1 (tCons (tVar 2) tNil)) (gName 8) (tSeq (tAsg (tOp (rI (fun _ j => 0 < j) fun i j => .int (i % j)) (tCB rInt1 (tCons (tOp (rI0 fun i j => .int (i + j)) (tOp (rI0 fun i j => .int (i + j)) (tOp (rI CMul fun i j => .int (i * j)) (tVar 4) (tC (.int 69621))) (tVar 8)) (tC (.int 3))) tNil)) (tC (.int 2147483629))) (gName 4))
  (tDrop (tBM K "list" rAppend (tVar 3) (tCons (tOp (rI (fun _ j => 0 < j) fun i j => .int (i % j)) (tCB rInt1 (tCons (tOp (rI CDiv fun i j => .int (i / j)) (tVar 4) (tC (.int 11))) tNil)) (tC (.int 1000003))) tNil)))))))))))
  (tSeq (tDrop (tBM0 K "list" rReverse (tVar 3)))
  (tRet (tVar 3))))))
theorem w_law_deck {K : PySem.W.Frag} : WpDeck K (t_law_deck K) 9 := by
  intro B Q a ns c e hS hl c0 c1 e0 e1 hq
  show Wp B (t_law_deck K) [.dat (.raw a), .dat (.int c), .dat (.int e), .no, .no, .no, .no, .no, .no] (Top Q)
  unfold t_law_deck
  walk_at "w"
  refine wp_forR1 ?_
  walk_at "w"
  refine ⟨fun i env' => ∃ (ms : List Int) (seed : Int) (x y z w : Sl), env' = [.dat (.raw a), .dat (.int c), .dat (.int e), .own (ms.map .int), .dat (.int seed), x, y, z, w] ∧ ms.length ≤ i * 100 ∧ (∀ k ∈ ms, 0 ≤ k) ∧ 0 ≤ seed ∧ seed < 2147483647, ?_, ?_, ?_⟩
  · exact ⟨[], _, _, _, _, _, rfl, by simp, by simp, by omega, by omega⟩
  · rintro i d env' hi rfl ⟨ms, seed, x, y, z, w, rfl, hm, hp, s0, s1⟩
    walk_at "w1"
    walk_at "w1"
    walk_at "w1"
    walk_at "w1"
    refine wp_seq ?_
    refine wp_rest (fun e' => ∃ cell : Int, e' = [.dat (.raw a), .dat (.int c), .dat (.int e), .own (ms.map .int), .dat (.int seed), .dat (.int i), .dat (.int cell), z, w]) ?_ (fun u hu => ?_)
    · rintro e' ⟨cell, rfl⟩
      walk_at "w"
      rw [abs_natAbs]
      refine ⟨fun hbig => ?_, fun hbig => ?_⟩
      · refine wp_forR1 ?_
        walk_at "w"
        refine ⟨fun j env' => ∃ (ms' : List Int) (rest : Int) (x : Sl), env' = [.dat (.raw a), .dat (.int c), .dat (.int e), .own (ms'.map .int), .dat (.int seed), .dat (.int i), .dat (.int cell), .dat (.int rest), x] ∧ ms'.length ≤ ms.length + j ∧ (∀ k ∈ ms', 0 ≤ k), ?_, ?_, ?_⟩
        · exact ⟨ms, _, _, rfl, by omega, hp⟩
        · rintro j d env' hj rfl ⟨ms', rest, x, rfl, hm', hp'⟩
          walk_at "w"
          refine nx_lo ⟨ms' ++ [rest % 1000003], _, _, by rw [List.map_append]; rfl, by rw [List.length_append, List.length_singleton]; omega, ?_⟩
          intro k hk
          rcases List.mem_append.mp hk with h | h
          · exact hp' k h
          · rw [List.mem_singleton.mp h]
            exact Int.emod_nonneg _ (by decide)
        · rintro env' ⟨ms', rest, x, rfl, hm', hp'⟩
          exact nx_lo ⟨ms', seed, _, _, _, _, rfl, by omega, hp', s0, s1⟩
      · walk_at "w"
        have q1 := Int.emod_nonneg (seed * 48271 + 5 * ↑cell.natAbs + 2 * (if decide (cell < 0) = true then 1 else 0) + ↑i) (show (2147483647 : Int) ≠ 0 by decide)
        have q2 := Int.emod_lt_of_pos (seed * 48271 + 5 * ↑cell.natAbs + 2 * (if decide (cell < 0) = true then 1 else 0) + ↑i) (show (0 : Int) < 2147483647 by decide)
        generalize (seed * 48271 + 5 * ↑cell.natAbs + 2 * (if decide (cell < 0) = true then 1 else 0) + ↑i) % 2147483647 = s2 at q1 q2 ⊢
        refine wp_forR1 ?_
        walk_at "w"
        refine ⟨fun j env' => ∃ (ms' : List Int) (s3 : Int) (x : Sl), env' = [.dat (.raw a), .dat (.int c), .dat (.int e), .own (ms'.map .int), .dat (.int s3), .dat (.int i), .dat (.int cell), .dat (.int cell.natAbs), x] ∧ ms'.length ≤ ms.length + j ∧ (∀ k ∈ ms', 0 ≤ k) ∧ 0 ≤ s3 ∧ s3 < 2147483647, ?_, ?_, ?_⟩
        · exact ⟨ms, s2, _, rfl, by omega, hp, q1, q2⟩
        · rintro j d env' hj rfl ⟨ms', s3, x, rfl, hm', hp', t0, t1⟩
          walk_at "w"
          have q3 := Int.emod_nonneg (s3 * 69621 + ↑j + 3) (show (2147483629 : Int) ≠ 0 by decide)
          have q4 := Int.emod_lt_of_pos (s3 * 69621 + ↑j + 3) (show (0 : Int) < 2147483629 by decide)
          generalize (s3 * 69621 + ↑j + 3) % 2147483629 = s4 at q3 q4 ⊢
          refine nx_lo ⟨ms' ++ [s4 / 11 % 1000003], s4, _, by rw [List.map_append]; rfl, by rw [List.length_append, List.length_singleton]; omega, ?_, q3, by omega⟩
          intro k hk
          rcases List.mem_append.mp hk with h | h
          · exact hp' k h
          · rw [List.mem_singleton.mp h]
            exact Int.emod_nonneg _ (by decide)
        · rintro env' ⟨ms', s3, x, rfl, hm', hp', t0, t1⟩
          exact nx_lo ⟨ms', s3, _, _, _, _, rfl, by omega, hp', t0, t1⟩
    · walk_at "w"
      refine ⟨fun h => ?_, fun h => ?_⟩
      · walk_at "w"
        have hi' : i < ns.length := by omega
        refine ⟨i, ns[i], rfl, List.getElem?_eq_getElem hi', ?_⟩
        walk_at "w"
        exact hu _ ⟨_, rfl⟩
      · walk_at "w"
        exact hu _ ⟨_, rfl⟩
  · rintro env' ⟨ms, seed, x, y, z, w, rfl, hm, hp, s0, s1⟩
    walk_at "w"
    rw [← List.map_reverse]
    intro F H σ E
    obtain ⟨p, vs, h1, h2, h3, h4, h5⟩ := E.own (i := 3) rfl
    refine ⟨.ref p, h1, ?_⟩
    rw [RpAll.ints_iff.mp h5] at h4
    exact hq p H ms.reverse h2 E.hh h4 (by rw [List.length_reverse]; omega) (fun k hk => hp k (List.mem_reverse.mp hk))
end DL

set_option Elab.async false
set_option linter.all false
set_option maxRecDepth 100000
set_option maxHeartbeats 4000000
set_option autoImplicit false
namespace DL
open PySem PySem.Spec PyProof.Rows L2
local macro_rules | `(tactic| walk_at "lit") => `(tactic| fail "lit")
local macro_rules | `(tactic| walk_at "side") => `(tactic| first | omega | (simp only [CMul, CDiv, CPow, List.length_nil, List.length_cons, List.length_map, List.length_append, List.length_replicate]; omega) | decide | (simp; done) | (simp; omega))
local macro_rules | `(tactic| walk_at "es1") => `(tactic| first
  | ((with_reducible refine es_own (xs := ?dld) ?dlh ?_); (case dlh => exact rfl))
  | ((with_reducible refine es_el ?_); walk_at "el1")
  | with_reducible refine es_ev ?_)
local macro_rules | `(tactic| walk_at "el1") => `(tactic| first
  | with_reducible refine el_lst ?_
  | with_reducible refine el_cat ?_
  | with_reducible refine el_rep ?_
  | with_reducible refine el_listOf ?_
  | with_reducible refine el_revL ?_
  | with_reducible refine el_slL ?_
  | with_reducible refine el_sortedI ?_
  | with_reducible refine el_listRg1 ?_
  | with_reducible refine el_sortedSetS ?_
  | with_reducible refine el_sortedSetT ?_
  | with_reducible refine el_call ?_)
local macro_rules | `(tactic| walk_at "et1") => `(tactic| first
  | with_reducible refine et_ib ?_
  | with_reducible refine et_eq ?_
  | with_reducible refine et_ne ?_
  | with_reducible refine et_and ?_
  | with_reducible refine et_or ?_
  | with_reducible refine et_not ?_
  | with_reducible refine et_ltS ?_
  | with_reducible refine et_gtS ?_
  | with_reducible refine et_leS ?_
  | with_reducible refine et_geS ?_
  | with_reducible refine et_yes ?_
  | with_reducible refine et_test ?_
  | with_reducible refine et_B ?_)
local macro_rules | `(tactic| walk_at "ev1") => `(tactic| first
  | ((with_reducible refine ev_var (d := ?dld) ?dlh ?_); (case dlh => exact rfl))
  | with_reducible refine ev_int ?_
  | with_reducible refine ev_ii ?_
  | with_reducible refine ev_iiC ?_
  | ((with_reducible refine ev_own (xs := ?dld) ?dlh ?_); (case dlh => exact rfl))
  | ((with_reducible refine ev_str (x := ?dld) ?dlh ?_); (case dlh => walk_at "lit"))
  | with_reducible refine ev_int1 ?_
  | with_reducible refine ev_call ?_
  | with_reducible refine ev_callN ?_
  | with_reducible refine ev_callS ?_
  | ((with_reducible refine ev_what (by assumption) (by exact rfl) ?_))
  | with_reducible refine ev_lenS ?_
  | ((with_reducible refine ev_lenRaw (a := ?dla) (ns := ?dln) ?dlh ?dls ?_); (case dlh => exact rfl); (case dls => assumption))
  | with_reducible refine ev_lenL ?_
  | with_reducible refine ev_ixS ?_
  | ((with_reducible refine ev_ixRaw (a := ?dla) (ns := ?dln) ?dlh ?dls ?_); (case dlh => exact rfl); (case dls => assumption))
  | with_reducible refine ev_ixL ?_
  | with_reducible refine ev_ixT ?_
  | with_reducible refine ev_slS ?_
  | with_reducible refine ev_addS ?_
  | with_reducible refine ev_mulS ?_
  | with_reducible refine ev_revS ?_
  | with_reducible refine ev_bl ?_
  | with_reducible refine ev_non ?_
  | with_reducible refine ev_ib ?_
  | with_reducible refine ev_eq ?_
  | with_reducible refine ev_ne ?_
  | with_reducible refine ev_neg ?_
  | with_reducible refine ev_tup ?_
  | with_reducible refine ev_abs ?_
  | with_reducible refine ev_gcd ?_
  | with_reducible refine ev_index ?_
  | with_reducible refine ev_max2 ?_
  | with_reducible refine ev_min2 ?_
  | with_reducible refine ev_sum ?_
  | with_reducible refine ev_all ?_
  | with_reducible refine ev_any ?_
  | with_reducible refine ev_if ?_
  | with_reducible refine ev_notV ?_
  | with_reducible refine ev_andV ?_
  | with_reducible refine ev_orV ?_
  | with_reducible refine ev_isNn ?_
  | with_reducible refine ev_notNn ?_
  | with_reducible refine ev_isBl ?_
  | with_reducible refine ev_notBl ?_
  | with_reducible refine ev_isV ?_
  | with_reducible refine ev_isiT ?_
  | with_reducible refine ev_isi ?_
  | with_reducible refine ev_chainS ?_
  | with_reducible refine ev_chainI ?_
  | with_reducible refine ev_ltS ?_
  | with_reducible refine ev_leS ?_
  | with_reducible refine ev_in ?_
  | with_reducible refine ev_join ?_
  | with_reducible refine ev_maxL ?_
  | with_reducible refine ev_minL ?_
  | with_reducible refine ev_eqD ?_
  | with_reducible refine ev_neD ?_
  | ((with_reducible refine ev_el ?_); walk_at "el1"))
local macro_rules | `(tactic| walk_at "wp1") => `(tactic| first
  | with_reducible refine wp_seq ?_
  | with_reducible refine nx_sq ?_
  | ((with_reducible refine wp_asgO ?_); first | with_reducible refine el_lst ?_ | with_reducible refine el_rep ?_)
  | with_reducible refine wp_asg ?_
  | with_reducible refine wp_if ?_
  | ((with_reducible refine wp_aug (a := ?dld) ?dlh ?_); (case dlh => exact rfl))
  | ((with_reducible refine wp_append (xs := ?dld) ?dlh ?_); (case dlh => exact rfl))
  | ((with_reducible refine wp_augL (xs := ?dld) ?dlh ?_); (case dlh => exact rfl))
  | ((with_reducible refine wp_setL (xs := ?dld) ?dlh ?_); (case dlh => exact rfl))
  | ((with_reducible refine wp_reverse (xs := ?dld) ?dlh ?_); (case dlh => exact rfl))
  | with_reducible refine wp_par ?_
  | with_reducible refine wp_try ?_
  | ((with_reducible refine wp_raise ?dlx ?_); (case dlx => assumption))
  | with_reducible refine wp_tup2 ?_
  | with_reducible refine wp_drop ?_
  | with_reducible refine wp_next ?_
  | with_reducible refine wp_break ?_
  | with_reducible refine wp_continue ?_
  | (refine wp_ret (Φ := ?dld) ?dlr ?_; (case dlr => assumption)))
local macro_rules | `(tactic| walk_at "lf1") => `(tactic| first
  | with_reducible refine eqT_int ?_ ?_
  | with_reducible refine eqT_str ?_ ?_
  | with_reducible refine eqT_bl ?_ ?_
  | with_reducible refine eqP_int ?_
  | with_reducible refine eqP_str ?_
  | with_reducible refine eqP_bl ?_
  | with_reducible refine neP_int ?_
  | with_reducible refine neP_str ?_
  | with_reducible refine neP_bl ?_
  | with_reducible refine lenP_l ?_
  | with_reducible refine lenP_t ?_
  | with_reducible refine ⟨_, _, rfl, rfl, ?_⟩
  | with_reducible refine ⟨_, rfl, ?_⟩
  | with_reducible refine ⟨_, _, rfl, ?_⟩
  | with_reducible refine Or.inl ⟨_, rfl, ?_⟩
  | with_reducible refine Or.inr ⟨_, rfl, ?_⟩
  | ((with_reducible refine And.intro ?dls ?_); (case dls => walk_at "side")))
local macro_rules | `(tactic| walk_at "w1") => `(tactic| first
  | ((with_reducible show Ev _ _ _ _ _); walk_at "ev1")
  | ((with_reducible show Ea _ _ _ _ _); first | with_reducible refine ea_cons ?_ | with_reducible refine ea_nil ?_)
  | ((with_reducible show Et _ _ _ _ _); walk_at "et1")
  | ((with_reducible show Es _ _ _ _); walk_at "es1")
  | ((with_reducible show Eo _ _ _ _); first | with_reducible refine eo_none ?_ | with_reducible refine eo_some ?_)
  | ((with_reducible show El _ _ _ _); walk_at "el1")
  | walk_at "wp1"
  | walk_at "lf1")
local macro_rules | `(tactic| walk_at "w") => `(tactic| repeat walk_at "w1")
/-! ### _law_plain, _law_same -/
theorem lit_None : ("None" : Str) = S [78, 111, 110, 101] := by decide +kernel
theorem lit_False : ("False" : Str) = S [70, 97, 108, 115, 101] := by decide +kernel
theorem lit_True : ("True" : Str) = S [84, 114, 117, 101] := by decide +kernel
local macro_rules | `(tactic| walk_at "lit") => `(tactic| first | with_reducible exact lit_e | with_reducible exact lit_None | with_reducible exact lit_False | with_reducible exact lit_True)
mutual
def plain : Dt → Dt
  | .non => .str [78, 111, 110, 101]
  | .bl false => .str [70, 97, 108, 115, 101]
  | .bl true => .str [84, 114, 117, 101]
  | .int i => .list [.bl false, .int i]
  | .str x => .list [.bl true, .str x]
  | .list xs => .list (.bl true :: plains xs)
  | .tup xs => .list (.bl false :: plains xs)
  | .deck => .deck
  | .raw a => .raw a
def plains : List Dt → List Dt
  | [] => []
  | x :: xs => plain x :: plains xs
end
mutual
def dep : Dt → Nat
  | .list xs => deps xs + 1
  | .tup xs => deps xs + 1
  | _ => 0
def deps : List Dt → Nat
  | [] => 0
  | x :: xs => max (dep x) (deps xs)
end
theorem plains_map : ∀ xs : List Dt, plains xs = xs.map plain
  | [] => by simp [plains]
  | x :: xs => by simp [plains, plains_map xs]
theorem dep_mem : ∀ {xs : List Dt} {x : Dt}, x ∈ xs → dep x ≤ deps xs
  | y :: ys, x, h => by
    unfold deps
    rcases List.mem_cons.mp h with rfl | h
    · exact Nat.le_max_left _ _
    · exact Nat.le_trans (dep_mem h) (Nat.le_max_right _ _)
theorem pureD_mem : ∀ {xs : List Dt} {x : Dt}, pureDs xs = true → x ∈ xs → pureD x = true
  | y :: ys, x, hp, h => by
    unfold pureDs at hp
    rw [Bool.and_eq_true] at hp
    rcases List.mem_cons.mp h with rfl | h
    · exact hp.1
    · exact pureD_mem hp.2 h
theorem lenD_mem : ∀ {xs : List Dt} {x : Dt}, lenDs xs = true → x ∈ xs → lenD x = true
  | y :: ys, x, hp, h => by
    unfold lenDs at hp
    rw [Bool.and_eq_true] at hp
    rcases List.mem_cons.mp h with rfl | h
    · exact hp.1
    · exact lenD_mem hp.2 h
theorem plainD_of {d : Dt} (h : pureD d = true) : plainD d := by
  cases d <;> first | trivial | (unfold pureD at h; cases h)
theorem kb1 : kitB "list" "tuple" = some false := by decide +kernel
theorem kb2 : kitB "list" "list" = some true := by decide +kernel
theorem kb3 : kitB "tuple" "tuple" = some true := by decide +kernel
theorem kb4 : kitB "tuple" "list" = some false := by decide +kernel
theorem kb5 : kitB "NoneType" "tuple" = some false := by decide +kernel
theorem kb6 : kitB "NoneType" "list" = some false := by decide +kernel
theorem kb7 : kitB "bool" "tuple" = some false := by decide +kernel
theorem kb8 : kitB "bool" "list" = some false := by decide +kernel
theorem kb9 : kitB "int" "tuple" = some false := by decide +kernel
theorem kb10 : kitB "int" "list" = some false := by decide +kernel
theorem kb11 : kitB "str" "tuple" = some false := by decide +kernel
theorem kb12 : kitB "str" "list" = some false := by decide +kernel
theorem kb13 : kitB "NoneType" "dict" = some false := by decide +kernel
theorem kb14 : kitB "bool" "dict" = some false := by decide +kernel
theorem kb15 : kitB "int" "dict" = some false := by decide +kernel
theorem kb16 : kitB "str" "dict" = some false := by decide +kernel
theorem kb17 : kitB "bool" "bool" = some true := by decide +kernel
theorem kb18 : kitB "int" "bool" = some false := by decide +kernel
theorem kb19 : kitB "str" "bool" = some false := by decide +kernel
theorem kb20 : kitB "int" "int" = some true := by decide +kernel
theorem kb21 : kitB "str" "int" = some false := by decide +kernel
theorem kb22 : kitB "int" "str" = some false := by decide +kernel
theorem kb23 : kitB "str" "str" = some true := by decide +kernel
theorem kb24 : kitB "bool" "int" = some true := by decide +kernel
def rPlain (n : Nat) : Rd1 := fun args Φ => ∃ d, args = [d] ∧ pureD d = true ∧ lenD d = true ∧ dep d < n ∧ Φ (plain d)
def t_law_plain (K : PySem.W.Frag) (n : Nat) : TS :=
  (tSeq (tIfS (tB (tCB (rIsiT K) (tCons (tVar 0) (tCons (tTup (tCons (tC (.ty "tuple")) (tCons (tC (.ty "list")) tNil))) tNil)))) (tRet (tOp rCat (tLst (tCons (tCB (rIsi K) (tCons (tVar 0) (tCons (tC (.ty "list")) tNil))) tNil)) (tLc (iOr (iList K (tVar 0)) (iTup K (tVar 0))) (gName 1) tYes (tCall (spD 1 (rPlain n)) [] E0 (tCons (tVar 1) tNil)) [1]))) tNext)
  (tSeq (tIfS (tB (tCB (rIsi K) (tCons (tVar 0) (tCons (tC (.ty "dict")) tNil)))) tNever tNext)
  (tSeq (tIfS (tOr (tTest (tOp rIsNn (tVar 0) (tC .non))) (tB (tCB (rIsi K) (tCons (tVar 0) (tCons (tC (.ty "bool")) tNil))))) (tRet (tOp (rIxL K) (tLst (tCons (tC (.str "None")) (tCons (tC (.str "False")) (tCons (tC (.str "True")) tNil)))) (tOp (rI0 fun i j => .int (i + j)) (tCB rInt1 (tCons (tOp rNotNn (tVar 0) (tC .non)) tNil)) (tCB rInt1 (tCons (tOp rIsV (tVar 0) (tC (.bl true))) tNil))))) tNext)
  (tSeq (tIfS (tB (tCB (rIsiT K) (tCons (tVar 0) (tCons (tTup (tCons (tC (.ty "int")) (tCons (tC (.ty "str")) tNil))) tNil)))) (tRet (tLst (tCons (tCB (rIsi K) (tCons (tVar 0) (tCons (tC (.ty "str")) tNil))) (tCons (tVar 0) tNil)))) tNext)
  tNever))))
local macro_rules | `(tactic| walk_at "kb") => `(tactic| first | exact kb1 | exact kb2 | exact kb3 | exact kb4 | exact kb5 | exact kb6 | exact kb7 | exact kb8 | exact kb9 | exact kb10 | exact kb11 | exact kb12 | exact kb13 | exact kb14 | exact kb15 | exact kb16 | exact kb17 | exact kb18 | exact kb19 | exact kb20 | exact kb21 | exact kb22 | exact kb23 | exact kb24)
theorem w_law_plain {K : PySem.W.Frag} (n : Nat) : WpD (t_law_plain K n) 3 (rPlain (n + 1)) := by
  rintro B Q args Φ ⟨d, rfl, hp, hl, hd, hΦ⟩ hr
  show Wp B (t_law_plain K n) [.dat d, .no, .no] (Top Q)
  unfold t_law_plain
  have hpl := plainD_of hp
  cases d with
  | deck => exact hpl.elim
  | raw a => exact hpl.elim
  | list xs =>
    unfold pureD at hp
    unfold lenD at hl
    rw [Bool.and_eq_true, decide_eq_true_eq] at hl
    have hd' : deps xs + 1 < n + 1 := by unfold dep at hd; exact hd
    walk_at "w"
    refine isiT_i trivial kb1 kb2 ?_
    walk_at "w"
    refine ⟨fun _ => ?_, fun h => by cases h⟩
    refine wp_ret hr ?_
    walk_at "w"
    refine isi_i trivial kb2 ?_
    walk_at "w"
    refine ev_el (el_or1 (el_lcL (fun ys h => by cases h) ?_))
    walk_at "w"
    refine ct_map (f := plain) (by omega) (fun i d hi => ?_) ?_
    · walk_at "w"
      have hm : d ∈ xs := List.mem_of_getElem? hi
      exact ⟨d, rfl, pureD_mem hp hm, lenD_mem hl.2 hm, by have := dep_mem hm; omega, rfl⟩
    · walk_at "w"
      have : plain (.list xs) = .list ([.bl true] ++ xs.map plain) := by rw [← plains_map]; simp [plain]
      rw [← this]
      exact hΦ
  | tup xs =>
    unfold pureD at hp
    unfold lenD at hl
    rw [Bool.and_eq_true, decide_eq_true_eq] at hl
    have hd' : deps xs + 1 < n + 1 := by unfold dep at hd; exact hd
    walk_at "w"
    refine isiT_i trivial kb3 kb4 ?_
    walk_at "w"
    refine ⟨fun _ => ?_, fun h => by cases h⟩
    refine wp_ret hr ?_
    walk_at "w"
    refine isi_i trivial kb4 ?_
    walk_at "w"
    refine ev_el (el_or2 (el_lcT (fun ys h => by cases h) ?_))
    walk_at "w"
    refine ct_map (f := plain) (by omega) (fun i d hi => ?_) ?_
    · walk_at "w"
      have hm : d ∈ xs := List.mem_of_getElem? hi
      exact ⟨d, rfl, pureD_mem hp hm, lenD_mem hl.2 hm, by have := dep_mem hm; omega, rfl⟩
    · walk_at "w"
      have : plain (.tup xs) = .list ([.bl false] ++ xs.map plain) := by rw [← plains_map]; simp [plain]
      rw [← this]
      exact hΦ
  | non =>
    walk_at "w"
    refine isiT_i trivial kb5 kb6 ?_
    walk_at "w"
    intro _
    walk_at "w"
    refine isi_i trivial kb13 ?_
    walk_at "w"
    intro _
    walk_at "w"
    refine ⟨fun _ => ?_, fun h => by cases h⟩
    refine wp_ret hr ?_
    walk_at "w"
    refine Or.inl ⟨rfl, ?_⟩
    walk_at "w"
    exact hΦ
  | bl b =>
    walk_at "w"
    refine isiT_i trivial kb7 kb8 ?_
    walk_at "w"
    intro _
    walk_at "w"
    refine isi_i trivial kb14 ?_
    walk_at "w"
    intro _
    walk_at "w"
    refine ⟨fun h => (by cases h), fun _ => ?_⟩
    walk_at "w"
    refine isi_i trivial kb17 ?_
    walk_at "w"
    refine ⟨fun _ => ?_, fun h => (by cases h)⟩
    refine wp_ret hr ?_
    walk_at "w"
    cases b with
    | true => exact ⟨_, _, rfl, rfl, hΦ⟩
    | false => exact ⟨_, _, rfl, rfl, hΦ⟩
  | int i =>
    walk_at "w"
    refine isiT_i trivial kb9 kb10 ?_
    walk_at "w"
    intro _
    walk_at "w"
    refine isi_i trivial kb15 ?_
    walk_at "w"
    intro _
    walk_at "w"
    refine ⟨fun h => (by cases h), fun _ => ?_⟩
    walk_at "w"
    refine isi_i trivial kb18 ?_
    walk_at "w"
    intro _
    walk_at "w"
    refine isiT_i trivial kb20 kb22 ?_
    walk_at "w"
    refine ⟨fun _ => ?_, fun h => (by cases h)⟩
    refine wp_ret hr ?_
    walk_at "w"
    refine isi_i trivial kb22 ?_
    walk_at "w"
    exact hΦ
  | str x =>
    walk_at "w"
    refine isiT_i trivial kb11 kb12 ?_
    walk_at "w"
    intro _
    walk_at "w"
    refine isi_i trivial kb16 ?_
    walk_at "w"
    intro _
    walk_at "w"
    refine ⟨fun h => (by cases h), fun _ => ?_⟩
    walk_at "w"
    refine isi_i trivial kb19 ?_
    walk_at "w"
    intro _
    walk_at "w"
    refine isiT_i trivial kb21 kb23 ?_
    walk_at "w"
    refine ⟨fun _ => ?_, fun h => (by cases h)⟩
    refine wp_ret hr ?_
    walk_at "w"
    refine isi_i trivial kb23 ?_
    walk_at "w"
    exact hΦ
/-! == of what is the same -/
mutual
theorem lay_of : ∀ d : Dt, pureD d = true → (toPy d).canLay0 = true
  | .non, _ => by unfold toPy; rfl
  | .bl _, _ => by unfold toPy; rfl
  | .int _, _ => by unfold toPy; rfl
  | .str x, h => by
    unfold toPy
    unfold pureD at h
    show PyData.strOk (S x) = true
    unfold PyData.strOk
    show x.toArray.all _ = true
    simpa using h
  | .list xs, h => by
    unfold toPy
    unfold pureD at h
    show PyData.canLayAll0 (toPys xs) = true
    exact lays_of xs h
  | .tup xs, h => by
    unfold toPy
    unfold pureD at h
    show PyData.canLayAll0 (toPys xs) = true
    exact lays_of xs h
  | .deck, h => by unfold pureD at h; cases h
  | .raw _, h => by unfold pureD at h; cases h
theorem lays_of : ∀ ds : List Dt, pureDs ds = true → PyData.canLayAll0 (toPys ds) = true
  | [], _ => by unfold toPys; rfl
  | x :: xs, h => by
    unfold toPys
    unfold pureDs at h
    rw [Bool.and_eq_true] at h
    show (PyData.canLay0 (toPy x) && PyData.canLayAll0 (toPys xs)) = true
    rw [lay_of x h.1, lays_of xs h.2]; rfl
end
mutual
theorem depth_of : ∀ d : Dt, (toPy d).depth = dep d
  | .non => by unfold toPy dep; rfl
  | .bl _ => by unfold toPy dep; rfl
  | .int _ => by unfold toPy dep; rfl
  | .str x => by unfold toPy dep; rfl
  | .list xs => by
    unfold toPy dep
    show PyData.depthAll (toPys xs) + 1 = _
    rw [depths_of xs]
  | .tup xs => by
    unfold toPy dep
    show PyData.depthAll (toPys xs) + 1 = _
    rw [depths_of xs]
  | .deck => by unfold toPy dep; rfl
  | .raw _ => by unfold toPy dep; rfl
theorem depths_of : ∀ ds : List Dt, PyData.depthAll (toPys ds) = deps ds
  | [] => by unfold toPys deps; rfl
  | x :: xs => by
    unfold toPys deps
    show max (PyData.depth (toPy x)) (PyData.depthAll (toPys xs)) = _
    rw [depth_of x, depths_of xs]
end
mutual
theorem plain_pure : ∀ d : Dt, pureD d = true → pureD (plain d) = true ∧ dep (plain d) ≤ dep d + 1
  | .non, _ => by unfold plain; exact ⟨by decide, by decide⟩
  | .bl true, _ => by unfold plain; exact ⟨by decide, by decide⟩
  | .bl false, _ => by unfold plain; exact ⟨by decide, by decide⟩
  | .int _, _ => by unfold plain; exact ⟨by simp [pureD, pureDs], by simp [dep, deps]⟩
  | .str x, h => by unfold plain; exact ⟨by simp only [pureD, pureDs] at h ⊢; simp [h], by simp [dep, deps]⟩
  | .list xs, h => by
    unfold pureD at h
    obtain ⟨h1, h2⟩ := plains_pure xs h
    unfold plain
    refine ⟨?_, ?_⟩
    · simp only [pureD, pureDs, h1, Bool.and_self]
    · simp only [dep, deps]
      omega
  | .tup xs, h => by
    unfold pureD at h
    obtain ⟨h1, h2⟩ := plains_pure xs h
    unfold plain
    refine ⟨?_, ?_⟩
    · simp only [pureD, pureDs, h1, Bool.and_self]
    · simp only [dep, deps]
      omega
  | .deck, h => by unfold pureD at h; cases h
  | .raw _, h => by unfold pureD at h; cases h
theorem plains_pure : ∀ ds : List Dt, pureDs ds = true → pureDs (plains ds) = true ∧ deps (plains ds) ≤ deps ds + 1
  | [], _ => by unfold plains; exact ⟨rfl, by simp [deps]⟩
  | x :: xs, h => by
    unfold pureDs at h
    rw [Bool.and_eq_true] at h
    obtain ⟨h1, h2⟩ := plain_pure x h.1
    obtain ⟨h3, h4⟩ := plains_pure xs h.2
    unfold plains
    refine ⟨by unfold pureDs; rw [h1, h3]; rfl, ?_⟩
    unfold deps
    omega
end
def t_law_same (K : PySem.W.Frag) : TS :=
  (tRet (tOp (rEqD K) (tCall (spD 1 (rPlain 4)) [] E0 (tCons (tVar 0) tNil)) (tCall (spD 1 (rPlain 4)) [] E0 (tCons (tVar 1) tNil))))
/-- of what is the same it says so -/
def rSame : Rd1 := fun args Φ => ∃ d, args = [d, d] ∧ pureD d = true ∧ lenD d = true ∧ dep d < 4 ∧ Φ (.bl true)
theorem same_i {a b : Dt} {Φ : Dt → Prop} (e : a = b) (h1 : pureD b = true) (h2 : lenD b = true) (h3 : dep b < 4) (h : Φ (.bl true)) : rSame [a, b] Φ := ⟨b, by rw [e], h1, h2, h3, h⟩
theorem w_law_same {K : PySem.W.Frag} : WpD (t_law_same K) 2 rSame := by
  rintro B Q args Φ ⟨d, rfl, hp, hl, hd, hΦ⟩ hr
  show Wp B (t_law_same K) [.dat d, .dat d] (Top Q)
  unfold t_law_same
  walk_at "w"
  refine ⟨d, rfl, hp, hl, hd, ?_⟩
  walk_at "w"
  refine ⟨d, rfl, hp, hl, hd, ?_⟩
  walk_at "w"
  obtain ⟨h1, h2⟩ := plain_pure d hp
  have h3 := lay_of _ h1
  have h4 : SeqAt.shaped (toPy (plain d)) = true := by
    unfold SeqAt.shaped
    rw [h3, depth_of, decide_eq_true (by omega)]; rfl
  refine ⟨⟨h1, h1, h4, h4⟩, ?_⟩
  rw [PySem.SeqAt.eqv_refl _ h3]
  exact hΦ
theorem pure_ints (ns : List Int) : pureDs (ns.map .int) = true := by
  induction ns with
  | nil => rfl
  | cons n ns ih => simp only [List.map_cons, pureDs, pureD, ih, Bool.and_self]
theorem lenD_ints (ns : List Int) : lenDs (ns.map .int) = true := by
  induction ns with
  | nil => rfl
  | cons n ns ih => simp only [List.map_cons, lenDs, lenD, ih, Bool.and_self]
theorem deps_ints (ns : List Int) : deps (ns.map .int) = 0 := by
  induction ns with
  | nil => rfl
  | cons n ns ih => simp only [List.map_cons, deps, dep, ih]; rfl
theorem same_ints {a : Dt} {ns : List Int} {Φ : Dt → Prop} (e : a = .list (ns.map .int)) (hl : ns.length ≤ 100000) (h : Φ (.bl true)) : rSame [a, .list (ns.map .int)] Φ :=
  same_i e (by unfold pureD; exact pure_ints ns) (by unfold lenD; rw [lenD_ints, decide_eq_true (by rw [List.length_map]; exact hl)]; rfl) (by unfold dep; rw [deps_ints]; decide) h
theorem same_int {a : Dt} {n : Int} {Φ : Dt → Prop} (e : a = .int n) (h : Φ (.bl true)) : rSame [a, .int n] Φ := same_i e rfl rfl (by unfold dep; decide) h
theorem same_bl {a : Dt} {n : Bool} {Φ : Dt → Prop} (e : a = .bl n) (h : Φ (.bl true)) : rSame [a, .bl n] Φ := same_i e rfl rfl (by unfold dep; decide) h
theorem same_str {a : Dt} {x : List Nat} {Φ : Dt → Prop} (e : a = .str x) (hx : ∀ c ∈ x, c < 1114112) (h : Φ (.bl true)) : rSame [a, .str x] Φ := same_i e (by unfold pureD; simpa using hx) rfl (by unfold dep; decide) h
theorem rPlain_void (vs : List V) (H : Hp) (Q : VK) (E : XK) : ¬ spD 1 (rPlain 0) vs H Q E := fun ⟨_, _, _, _, _, _, h, _⟩ => by
  obtain ⟨d, _, _, _, h, _⟩ := h
  exact Nat.not_lt_zero _ h
end DL

set_option Elab.async false
set_option linter.all false
set_option maxRecDepth 100000
set_option maxHeartbeats 4000000
set_option autoImplicit false
namespace DL
open PySem PySem.Spec PyProof.Rows L2
local macro_rules | `(tactic| walk_at "lit") => `(tactic| fail "lit")
local macro_rules | `(tactic| walk_at "side") => `(tactic| first | omega | (simp only [CMul, CDiv, CPow, List.length_nil, List.length_cons, List.length_map, List.length_append, List.length_replicate]; omega) | decide | (simp; done) | (simp; omega))
local macro_rules | `(tactic| walk_at "es1") => `(tactic| first
  | ((with_reducible refine es_own (xs := ?dld) ?dlh ?_); (case dlh => exact rfl))
  | ((with_reducible refine es_el ?_); walk_at "el1")
  | with_reducible refine es_ev ?_)
local macro_rules | `(tactic| walk_at "el1") => `(tactic| first
  | with_reducible refine el_lst ?_
  | with_reducible refine el_cat ?_
  | with_reducible refine el_rep ?_
  | with_reducible refine el_listOf ?_
  | with_reducible refine el_revL ?_
  | with_reducible refine el_slL ?_
  | with_reducible refine el_sortedI ?_
  | with_reducible refine el_listRg1 ?_
  | with_reducible refine el_sortedSetS ?_
  | with_reducible refine el_sortedSetT ?_
  | with_reducible refine el_call ?_)
local macro_rules | `(tactic| walk_at "et1") => `(tactic| first
  | with_reducible refine et_ib ?_
  | with_reducible refine et_eq ?_
  | with_reducible refine et_ne ?_
  | with_reducible refine et_and ?_
  | with_reducible refine et_or ?_
  | with_reducible refine et_not ?_
  | with_reducible refine et_ltS ?_
  | with_reducible refine et_gtS ?_
  | with_reducible refine et_leS ?_
  | with_reducible refine et_geS ?_
  | with_reducible refine et_yes ?_
  | with_reducible refine et_test ?_
  | with_reducible refine et_B ?_)
local macro_rules | `(tactic| walk_at "ev1") => `(tactic| first
  | ((with_reducible refine ev_var (d := ?dld) ?dlh ?_); (case dlh => exact rfl))
  | with_reducible refine ev_int ?_
  | with_reducible refine ev_ii ?_
  | with_reducible refine ev_iiC ?_
  | ((with_reducible refine ev_own (xs := ?dld) ?dlh ?_); (case dlh => exact rfl))
  | ((with_reducible refine ev_str (x := ?dld) ?dlh ?_); (case dlh => walk_at "lit"))
  | with_reducible refine ev_int1 ?_
  | with_reducible refine ev_call ?_
  | with_reducible refine ev_callN ?_
  | with_reducible refine ev_callS ?_
  | ((with_reducible refine ev_what (by assumption) (by exact rfl) ?_))
  | with_reducible refine ev_lenS ?_
  | ((with_reducible refine ev_lenRaw (a := ?dla) (ns := ?dln) ?dlh ?dls ?_); (case dlh => exact rfl); (case dls => assumption))
  | with_reducible refine ev_lenL ?_
  | with_reducible refine ev_ixS ?_
  | ((with_reducible refine ev_ixRaw (a := ?dla) (ns := ?dln) ?dlh ?dls ?_); (case dlh => exact rfl); (case dls => assumption))
  | with_reducible refine ev_ixL ?_
  | with_reducible refine ev_ixT ?_
  | with_reducible refine ev_slS ?_
  | with_reducible refine ev_addS ?_
  | with_reducible refine ev_mulS ?_
  | with_reducible refine ev_revS ?_
  | with_reducible refine ev_bl ?_
  | with_reducible refine ev_non ?_
  | with_reducible refine ev_ib ?_
  | with_reducible refine ev_eq ?_
  | with_reducible refine ev_ne ?_
  | with_reducible refine ev_neg ?_
  | with_reducible refine ev_tup ?_
  | with_reducible refine ev_abs ?_
  | with_reducible refine ev_gcd ?_
  | with_reducible refine ev_index ?_
  | with_reducible refine ev_max2 ?_
  | with_reducible refine ev_min2 ?_
  | with_reducible refine ev_sum ?_
  | with_reducible refine ev_all ?_
  | with_reducible refine ev_any ?_
  | with_reducible refine ev_if ?_
  | with_reducible refine ev_notV ?_
  | with_reducible refine ev_andV ?_
  | with_reducible refine ev_orV ?_
  | with_reducible refine ev_isNn ?_
  | with_reducible refine ev_notNn ?_
  | with_reducible refine ev_isBl ?_
  | with_reducible refine ev_notBl ?_
  | with_reducible refine ev_isV ?_
  | with_reducible refine ev_isiT ?_
  | with_reducible refine ev_isi ?_
  | with_reducible refine ev_chainS ?_
  | with_reducible refine ev_chainI ?_
  | with_reducible refine ev_ltS ?_
  | with_reducible refine ev_leS ?_
  | with_reducible refine ev_in ?_
  | with_reducible refine ev_join ?_
  | with_reducible refine ev_maxL ?_
  | with_reducible refine ev_minL ?_
  | with_reducible refine ev_eqD ?_
  | with_reducible refine ev_neD ?_
  | ((with_reducible refine ev_el ?_); walk_at "el1"))
local macro_rules | `(tactic| walk_at "wp1") => `(tactic| first
  | with_reducible refine wp_seq ?_
  | with_reducible refine nx_sq ?_
  | ((with_reducible refine wp_asgO ?_); first | with_reducible refine el_lst ?_ | with_reducible refine el_rep ?_)
  | with_reducible refine wp_asg ?_
  | with_reducible refine wp_if ?_
  | ((with_reducible refine wp_aug (a := ?dld) ?dlh ?_); (case dlh => exact rfl))
  | ((with_reducible refine wp_append (xs := ?dld) ?dlh ?_); (case dlh => exact rfl))
  | ((with_reducible refine wp_augL (xs := ?dld) ?dlh ?_); (case dlh => exact rfl))
  | ((with_reducible refine wp_setL (xs := ?dld) ?dlh ?_); (case dlh => exact rfl))
  | ((with_reducible refine wp_reverse (xs := ?dld) ?dlh ?_); (case dlh => exact rfl))
  | with_reducible refine wp_par ?_
  | with_reducible refine wp_try ?_
  | ((with_reducible refine wp_raise ?dlx ?_); (case dlx => assumption))
  | with_reducible refine wp_tup2 ?_
  | with_reducible refine wp_drop ?_
  | with_reducible refine wp_next ?_
  | with_reducible refine wp_break ?_
  | with_reducible refine wp_continue ?_
  | (refine wp_ret (Φ := ?dld) ?dlr ?_; (case dlr => assumption)))
local macro_rules | `(tactic| walk_at "lf1") => `(tactic| first
  | with_reducible refine eqT_int ?_ ?_
  | with_reducible refine eqT_str ?_ ?_
  | with_reducible refine eqT_bl ?_ ?_
  | with_reducible refine eqP_int ?_
  | with_reducible refine eqP_str ?_
  | with_reducible refine eqP_bl ?_
  | with_reducible refine neP_int ?_
  | with_reducible refine neP_str ?_
  | with_reducible refine neP_bl ?_
  | with_reducible refine lenP_l ?_
  | with_reducible refine lenP_t ?_
  | with_reducible refine ⟨_, _, rfl, rfl, ?_⟩
  | with_reducible refine ⟨_, rfl, ?_⟩
  | with_reducible refine ⟨_, _, rfl, ?_⟩
  | with_reducible refine Or.inl ⟨_, rfl, ?_⟩
  | with_reducible refine Or.inr ⟨_, rfl, ?_⟩
  | ((with_reducible refine And.intro ?dls ?_); (case dls => walk_at "side")))
local macro_rules | `(tactic| walk_at "w1") => `(tactic| first
  | ((with_reducible show Ev _ _ _ _ _); walk_at "ev1")
  | ((with_reducible show Ea _ _ _ _ _); first | with_reducible refine ea_cons ?_ | with_reducible refine ea_nil ?_)
  | ((with_reducible show Et _ _ _ _ _); walk_at "et1")
  | ((with_reducible show Es _ _ _ _); walk_at "es1")
  | ((with_reducible show Eo _ _ _ _); first | with_reducible refine eo_none ?_ | with_reducible refine eo_some ?_)
  | ((with_reducible show El _ _ _ _); walk_at "el1")
  | walk_at "wp1"
  | walk_at "lf1")
local macro_rules | `(tactic| walk_at "w") => `(tactic| repeat walk_at "w1")

theorem lit_e0 : ("" : Str) = S [] := by decide +kernel
theorem lit_a : ("a" : Str) = S [97] := by decide +kernel
theorem lit_z : ("z" : Str) = S [122] := by decide +kernel
theorem lit_ab : ("ab" : Str) = S [97, 98] := by decide +kernel
theorem lit_abz : ("abz" : Str) = S [97, 98, 122] := by decide +kernel
local macro_rules | `(tactic| walk_at "lit") => `(tactic| first | with_reducible exact lit_e0 | with_reducible exact lit_a | with_reducible exact lit_z | with_reducible exact lit_ab | with_reducible exact lit_abz)
def Lets (w : List Nat) : Prop := ∀ c ∈ w, 97 ≤ c ∧ c ≤ 122
def rIsWord : Rd1 := fun args Φ => ∃ w, args = [.str w] ∧ w.length ≤ 10000 ∧ Lets w ∧ Φ (.bl true)
def rCheckWord : Rd1 := fun args Φ => ∃ w, args = [.str w] ∧ w.length ≤ 10000 ∧ Lets w ∧ Φ .non
def t_is_word (K : PySem.W.Frag) : TS :=
  (tRet (tCB (rAll K) (tCons (tLc (iStr (tVar 0)) (gName 1) tYes (tChain rLeS rLeS (tC (.str "a")) (tVar 1) (tC (.str "z"))) [1]) tNil)))

def t_check_word (K : PySem.W.Frag) : TS :=
  (tIfS (tNot (tB (tCall (spD 1 rIsWord) [] E0 (tCons (tVar 0) tNil)))) tNever tNext)

theorem lt1 {a b : Nat} : ([a] : List Nat) < [b] ↔ a < b := by simp [List.cons_lt_cons_iff]
theorem isWord_i {w : List Nat} {Φ : Dt → Prop} (h1 : w.length ≤ 10000) (h2 : Lets w) (h : Φ (.bl true)) : rIsWord [.str w] Φ := ⟨w, rfl, h1, h2, h⟩
theorem checkWord_i {w : List Nat} {Φ : Dt → Prop} (h1 : w.length ≤ 10000) (h2 : Lets w) (h : Φ .non) : rCheckWord [.str w] Φ := ⟨w, rfl, h1, h2, h⟩
theorem w_is_word {K : PySem.W.Frag} : WpD (t_is_word K) 2 rIsWord := by
  rintro B Q args Φ ⟨w, rfl, hl, hw, hΦ⟩ hr
  show Wp B (t_is_word K) [.dat (.str w), .no] (Top Q)
  unfold t_is_word
  walk_at "w"
  refine ev_el (el_lcS (fun ys h => by cases h) ?_)
  walk_at "w"
  refine ⟨fun i acc => acc = ((List.replicate i true).map .bl), rfl, fun i c hc acc ha => ?_, fun acc ha => ?_⟩
  · subst ha
    have hcw := hw c (List.mem_of_getElem? hc)
    have hi : i < w.length := (List.getElem?_eq_some_iff.mp hc).1
    walk_at "w"
    refine ⟨fun h => ?_, fun h => ?_⟩
    · walk_at "w"
      have : ¬ ([122] : List Nat) < [c] := fun z => by have := lt1.mp z; omega
      show _ = _
      rw [decide_eq_false this, List.replicate_succ', List.map_append]
      rfl
    · have := lt1.mp h
      omega
  · subst ha
    refine ⟨_, rfl, ?_⟩
    have : (List.replicate w.length true).all id = true := by simp
    rw [this]
    exact hΦ
theorem w_check_word {K : PySem.W.Frag} : WpD (t_check_word K) 1 rCheckWord := by
  rintro B Q args Φ ⟨w, rfl, hl, hw, hΦ⟩ hr
  show Wp B (t_check_word K) [.dat (.str w)] (Top Q)
  unfold t_check_word
  walk_at "w"
  refine isWord_i hl hw ?_
  refine ⟨_, rfl, fun _ => ?_, fun h => by cases h⟩
  walk_at "w"
  exact nx_top hr hΦ
theorem inP_int {neg : Bool} {P : Dt → Prop} {i : Int} {ns : List Int} (h : P (.bl (neg ^^ decide (i ∈ ns)))) : InP neg P (.int i) (.list (ns.map .int)) := .inl ⟨i, ns, rfl, .inl rfl, h⟩
theorem notin_no {P : Dt → Prop} {i : Int} {ns : List Int} (h : i ∈ ns) (hp : P (.bl false)) : InP true P (.int i) (.list (ns.map .int)) := inP_int (by rw [decide_eq_true h]; exact hp)
theorem tB_no {P Q : Prop} (h : Q) : ∃ b, Dt.bl false = .bl b ∧ (b = true → P) ∧ (b = false → Q) := ⟨_, rfl, (fun h => by cases h), fun _ => h⟩
theorem tB_yes {P Q : Prop} (h : P) : ∃ b, Dt.bl true = .bl b ∧ (b = true → P) ∧ (b = false → Q) := ⟨_, rfl, fun _ => h, fun h => by cases h⟩
theorem lets_of {l w : List Nat} (hl : Lets l) (h : ∀ c ∈ w, c ∈ l) : Lets w := fun c hc => hl c (h c hc)
theorem lets_app {a b : List Nat} (ha : Lets a) (hb : Lets b) : Lets (a ++ b) := fun c hc => (List.mem_append.mp hc).elim (ha c) (hb c)
theorem lets_take {a : List Nat} {n : Nat} (ha : Lets a) : Lets (a.take n) := fun c hc => ha c (List.mem_of_mem_take hc)
theorem lets_drop {a : List Nat} {n : Nat} (ha : Lets a) : Lets (a.drop n) := fun c hc => ha c (List.mem_of_mem_drop hc)
theorem lets_rev {a : List Nat} (ha : Lets a) : Lets a.reverse := fun c hc => ha c (List.mem_reverse.mp hc)
theorem lets_one {l : List Nat} {c : Nat} {i : Nat} (hl : Lets l) (h : l[i]? = some c) : Lets [c] := fun d hd => by rw [List.mem_singleton.mp hd]; exact hl c (List.mem_of_getElem? h)
theorem lets_nil : Lets [] := fun c hc => by cases hc
theorem lets_rep {n a : Nat} (h : 97 ≤ a ∧ a ≤ 122) : Lets (List.replicate n a) := fun c hc => by rw [List.eq_of_mem_replicate hc]; exact h
/-- the law's own answer -/
theorem rt_law {B : Bs} {Q : VK} (hΦ : ∀ H', Q (.bl true) H') : Rt B Q (fun d => d = .bl true) := fun d v F H e _ _ _ _ r => by subst e; rw [Rp.bl_iff.mp r]; exact hΦ H
/-- one of three texts -/
theorem take3 {a b c : List Nat} {k : Int} {R : Dt → Prop} (k0 : 0 ≤ k) (k1 : k < 3) (h : ∀ l, l = a ∨ l = b ∨ l = c → R (.str l)) : ∃ (i : Int) (d : Dt), Dt.int k = .int i ∧ atI [Dt.str a, Dt.str b, Dt.str c] i = some d ∧ R d := by
  have : k.toNat = 0 ∨ k.toNat = 1 ∨ k.toNat = 2 := by omega
  rcases this with e | e | e
  · exact ⟨k, .str a, rfl, atI_nn k0 (by rw [e]; rfl), h a (.inl rfl)⟩
  · exact ⟨k, .str b, rfl, atI_nn k0 (by rw [e]; rfl), h b (.inr (.inl rfl))⟩
  · exact ⟨k, .str c, rfl, atI_nn k0 (by rw [e]; rfl), h c (.inr (.inr rfl))⟩
end DL

set_option autoImplicit false
set_option linter.all false
/-! borders and periods of words: the mathematics -/
namespace M00
/-- the beginning of w with i letters has the border k -/
def Bd (w : List Nat) (i k : Nat) : Prop := k < i ∧ i ≤ w.length ∧ ∀ j, j < k → w[j]? = w[i - k + j]?
instance (w : List Nat) (i k : Nat) : Decidable (Bd w i k) := by unfold Bd; exact inferInstance
theorem Bd.zero {w : List Nat} {i : Nat} (h : 0 < i) (hi : i ≤ w.length) : Bd w i 0 := ⟨h, hi, fun j hj => absurd hj (Nat.not_lt_zero j)⟩
theorem Bd.trans {w : List Nat} {i k l : Nat} (a : Bd w i k) (b : Bd w k l) : Bd w i l := by
  obtain ⟨a1, a2, a3⟩ := a
  obtain ⟨b1, b2, b3⟩ := b
  refine ⟨by omega, a2, fun j hj => ?_⟩
  rw [b3 j hj, a3 (k - l + j) (by omega)]
  congr 1
  omega
theorem Bd.cut {w : List Nat} {i k l : Nat} (a : Bd w i k) (b : Bd w i l) (h : l < k) : Bd w k l := by
  obtain ⟨a1, a2, a3⟩ := a
  obtain ⟨b1, b2, b3⟩ := b
  refine ⟨h, by omega, fun j hj => ?_⟩
  rw [b3 j hj, a3 (k - l + j) (by omega)]
  congr 1
  omega
theorem Bd.succ {w : List Nat} {i k : Nat} (a : Bd w i k) (hi : i + 1 ≤ w.length) (h : w[k]? = w[i]?) : Bd w (i + 1) (k + 1) := by
  obtain ⟨a1, a2, a3⟩ := a
  refine ⟨by omega, hi, fun j hj => ?_⟩
  by_cases e : j = k
  · subst e
    rw [h]
    congr 1
    omega
  · rw [a3 j (by omega)]
    congr 1
    omega
theorem Bd.pred {w : List Nat} {i k : Nat} (a : Bd w (i + 1) (k + 1)) : Bd w i k ∧ w[k]? = w[i]? := by
  obtain ⟨a1, a2, a3⟩ := a
  refine ⟨⟨by omega, by omega, fun j hj => ?_⟩, ?_⟩
  · rw [a3 j (by omega)]
    congr 1
    omega
  · rw [a3 k (by omega)]
    congr 1
    omega
theorem Bd.app {w v : List Nat} {i k : Nat} (hi : i ≤ w.length) : Bd (w ++ v) i k ↔ Bd w i k := by
  unfold Bd
  constructor
  · rintro ⟨h1, h2, h3⟩
    refine ⟨h1, hi, fun j hj => ?_⟩
    have := h3 j hj
    rwa [List.getElem?_append_left (by omega), List.getElem?_append_left (by omega)] at this
  · rintro ⟨h1, h2, h3⟩
    refine ⟨h1, by rw [List.length_append]; omega, fun j hj => ?_⟩
    rw [List.getElem?_append_left (by omega), List.getElem?_append_left (by omega)]
    exact h3 j hj
theorem Bd.take {w : List Nat} {i k m : Nat} (hm : m ≤ w.length) (hi : i ≤ m) : Bd (w.take m) i k ↔ Bd w i k := by
  have e : w.take m ++ w.drop m = w := List.take_append_drop m w
  have hl : (w.take m).length = m := by rw [List.length_take]; omega
  have := Bd.app (w := w.take m) (v := w.drop m) (i := i) (k := k) (by omega)
  rw [e] at this
  exact this.symm
/-- as words -/
theorem B_iff {w : List Nat} {k : Nat} (hk : k < w.length) : w.take k = w.drop (w.length - k) ↔ Bd w w.length k := by
  constructor
  · intro h
    refine ⟨hk, Nat.le_refl _, fun j hj => ?_⟩
    have h1 : (w.take k)[j]? = w[j]? := by rw [List.getElem?_take]; simp [hj]
    rw [← h1, h, List.getElem?_drop]
  · rintro ⟨_, _, h⟩
    apply List.ext_getElem?
    intro j
    by_cases hj : j < k
    · rw [List.getElem?_take, List.getElem?_drop]
      simp only [hj, if_true]
      exact h j hj
    · rw [List.getElem?_eq_none (by rw [List.length_take]; omega), List.getElem?_eq_none (by rw [List.length_drop]; omega)]
/-- t is the longest one -/
def Lb (w : List Nat) (i t : Nat) : Prop := Bd w i t ∧ ∀ k, Bd w i k → k ≤ t
def bs (w : List Nat) (i : Nat) : List Nat := (List.range i).filter fun k => decide (Bd w i k)
theorem mem_bs {w : List Nat} {i k : Nat} : k ∈ bs w i ↔ Bd w i k := by
  unfold bs
  rw [List.mem_filter, List.mem_range, decide_eq_true_eq]
  exact ⟨fun h => h.2, fun h => ⟨h.1, h⟩⟩
theorem bs_zero (w : List Nat) : bs w 0 = [] := rfl
/-- the borders are those of the longest one, and it -/
theorem bs_lb {w : List Nat} {i t : Nat} (h : Lb w i t) : bs w i = bs w t ++ [t] := by
  obtain ⟨h1, h2⟩ := h
  have e : i = t + 1 + (i - t - 1) := by have := h1.1; omega
  have hr : List.range i = List.range t ++ [t] ++ (List.range (i - t - 1)).map (t + 1 + ·) := by
    conv => lhs; rw [e, List.range_add, List.range_succ]
  unfold bs
  rw [hr, List.filter_append, List.filter_append]
  have p1 : (List.range t).filter (fun k => decide (Bd w i k)) = (List.range t).filter (fun k => decide (Bd w t k)) := by
    apply List.filter_congr
    intro k hk
    have hk' := List.mem_range.mp hk
    rw [decide_eq_decide]
    exact ⟨fun hb => h1.cut hb hk', fun hb => h1.trans hb⟩
  have p2 : [t].filter (fun k => decide (Bd w i k)) = [t] := by simp [h1]
  have p3 : ((List.range (i - t - 1)).map (t + 1 + ·)).filter (fun k => decide (Bd w i k)) = [] := by
    rw [List.filter_eq_nil_iff]
    intro k hk
    obtain ⟨m, _, rfl⟩ := List.mem_map.mp hk
    rw [decide_eq_true_eq]
    intro hb
    have := h2 _ hb
    omega
  rw [p1, p2, p3, List.append_nil]
theorem bs_sorted (w : List Nat) (i : Nat) : (bs w i).Pairwise (· < ·) := List.Pairwise.filter _ List.pairwise_lt_range
theorem bs_take {w : List Nat} {t : Nat} (ht : t ≤ w.length) : bs (w.take t) t = bs w t := by
  unfold bs
  apply List.filter_congr
  intro k _
  rw [decide_eq_decide]
  exact Bd.take ht (Nat.le_refl _)
theorem bs_lt {w : List Nat} {i k : Nat} (h : k ∈ bs w i) : k < i := (mem_bs.mp h).1
theorem bs_last {w : List Nat} {i : Nat} (hi : 0 < i) (hw : i ≤ w.length) : ∃ t, Lb w i t ∧ bs w i = bs w t ++ [t] := by
  have hne : bs w i ≠ [] := fun h => by
    have : (0 : Nat) ∈ bs w i := mem_bs.mpr (Bd.zero hi hw)
    rw [h] at this
    cases this
  have hL : Lb w i ((bs w i).getLast hne) := by
    refine ⟨mem_bs.mp (List.getLast_mem hne), fun k hk => ?_⟩
    have hk := mem_bs.mpr hk
    have hs := bs_sorted w i
    rw [← List.dropLast_concat_getLast hne] at hk hs
    rcases List.mem_append.mp hk with h | h
    · exact Nat.le_of_lt ((List.pairwise_append.mp hs).2.2 k h _ (List.mem_singleton.mpr rfl))
    · rw [List.mem_singleton.mp h]
      exact Nat.le_refl _
  exact ⟨_, hL, bs_lb hL⟩
/-! periods -/
/-- p is a period of w -/
def Pd (w : List Nat) (p : Nat) : Prop := 1 ≤ p ∧ p ≤ w.length ∧ Bd w w.length (w.length - p)
theorem Pd_iff {w : List Nat} {p : Nat} : Pd w p ↔ 1 ≤ p ∧ p ≤ w.length ∧ ∀ j, j + p < w.length → w[j]? = w[j + p]? := by
  unfold Pd Bd
  constructor
  · rintro ⟨h1, h2, h3, h4, h5⟩
    refine ⟨h1, h2, fun j hj => ?_⟩
    rw [h5 j (by omega)]
    congr 1
    omega
  · rintro ⟨h1, h2, h3⟩
    refine ⟨h1, h2, by omega, Nat.le_refl _, fun j hj => ?_⟩
    rw [h3 j (by omega)]
    congr 1
    omega
theorem Pd.sub {w : List Nat} {p q : Nat} (a : Pd w p) (b : Pd w q) (h : q < p) (hs : p + q ≤ w.length) : Pd w (p - q) := by
  rw [Pd_iff] at a b ⊢
  obtain ⟨a1, a2, a3⟩ := a
  obtain ⟨b1, b2, b3⟩ := b
  refine ⟨by omega, by omega, fun j hj => ?_⟩
  by_cases c : j + p < w.length
  · rw [a3 j c, b3 (j + (p - q)) (by omega)]
    congr 1
    omega
  · -- back by q, then on by p
    have c1 : q ≤ j := by omega
    have e1 := b3 (j - q) (by omega)
    have e2 := a3 (j - q) (by omega)
    rw [show j - q + q = j by omega] at e1
    rw [← e1, e2]
    congr 1
    omega
theorem Pd.gcd {w : List Nat} : ∀ (n : Nat) {p q : Nat}, p + q ≤ n → Pd w p → Pd w q → p + q ≤ w.length → Pd w (Nat.gcd p q)
  | 0, p, q, hn, a, b, _ => by have := a.1; omega
  | n + 1, p, q, hn, a, b, h => by
    by_cases e : p = q
    · subst e
      rw [Nat.gcd_self]
      exact a
    · by_cases c : q < p
      · have s := a.sub b c h
        have := Pd.gcd n (p := p - q) (q := q) (by have := b.1; omega) s b (by omega)
        rwa [Nat.gcd_sub_self_left (Nat.le_of_lt c)] at this
      · have c' : p < q := by omega
        have s := b.sub a c' (by omega)
        have := Pd.gcd n (p := p) (q := q - p) (by have := a.1; omega) a s (by omega)
        rwa [Nat.gcd_sub_self_right (Nat.le_of_lt c')] at this

/-! as whole numbers -/
def nI (l : List Nat) : List Int := l.map fun n : Nat => (n : Int)
theorem nI_len (l : List Nat) : (nI l).length = l.length := List.length_map ..
theorem nI_app (a b : List Nat) : nI (a ++ b) = nI a ++ nI b := List.map_append ..
theorem mem_nI {l : List Nat} {z : Int} : z ∈ nI l ↔ ∃ n : Nat, n ∈ l ∧ z = n := by
  unfold nI
  rw [List.mem_map]
  exact ⟨fun ⟨n, h, e⟩ => ⟨n, h, e.symm⟩, fun ⟨n, h, e⟩ => ⟨n, h, e.symm⟩⟩
theorem bs_len (w : List Nat) (i : Nat) : (bs w i).length ≤ i := by
  have := List.length_filter_le (fun k => decide (Bd w i k)) (List.range i)
  rw [List.length_range] at this
  exact this
def pers (w : List Nat) : List Int := (nI (bs w w.length)).reverse.map fun k => (w.length : Int) - k
theorem pers_len (w : List Nat) : (pers w).length ≤ w.length := by
  unfold pers
  rw [List.length_map, List.length_reverse, nI_len]
  exact bs_len w _
theorem mem_pers {w : List Nat} {z : Int} : z ∈ pers w ↔ ∃ p : Nat, z = p ∧ Pd w p := by
  unfold pers
  rw [List.mem_map]
  constructor
  · rintro ⟨k, hk, rfl⟩
    obtain ⟨n, hn, rfl⟩ := mem_nI.mp (List.mem_reverse.mp hk)
    have hb := mem_bs.mp hn
    have h1 := hb.1
    refine ⟨w.length - n, by omega, by omega, by omega, ?_⟩
    rw [show w.length - (w.length - n) = n by omega]
    exact hb
  · rintro ⟨p, rfl, h1, h2, h3⟩
    exact ⟨((w.length - p : Nat) : Int), List.mem_reverse.mpr (mem_nI.mpr ⟨_, mem_bs.mpr h3, rfl⟩), by omega⟩
theorem pers_sorted (w : List Nat) : (pers w).Pairwise (· ≤ ·) := by
  unfold pers nI
  rw [List.pairwise_map, List.pairwise_reverse, List.pairwise_map]
  refine (bs_sorted w w.length).imp fun h => ?_
  omega
theorem pers_perm (w : List Nat) : (pers w).Perm ((nI (bs w w.length)).map fun k => (w.length : Int) - k) := by
  unfold pers
  exact (List.reverse_perm _).map _
theorem sorted_unique : ∀ {a b : List Int}, a.Perm b → a.Pairwise (· ≤ ·) → b.Pairwise (· ≤ ·) → a = b
  | [], b, p, _, _ => (List.nil_perm.mp p).symm
  | x :: a, [], p, _, _ => by have := p.length_eq; simp at this
  | x :: a, y :: b, p, ha, hb => by
    have hx : x ≤ y := by
      rcases List.mem_cons.mp (p.symm.subset List.mem_cons_self) with h | h
      · rw [h]; exact Int.le_refl _
      · exact (List.pairwise_cons.mp ha).1 y h
    have hy : y ≤ x := by
      rcases List.mem_cons.mp (p.subset List.mem_cons_self) with h | h
      · rw [h]; exact Int.le_refl _
      · exact (List.pairwise_cons.mp hb).1 x h
    have e : x = y := Int.le_antisymm hx hy
    subst e
    rw [sorted_unique ((List.perm_cons x).mp p) (List.pairwise_cons.mp ha).2 (List.pairwise_cons.mp hb).2]
theorem sorted_pers {w : List Nat} {ns : List Int} (p : ns.Perm ((nI (bs w w.length)).map fun k => (w.length : Int) - k)) (h : ns.Pairwise (· ≤ ·)) : ns = pers w :=
  sorted_unique (p.trans (pers_perm w).symm) h (pers_sorted w)
/-- the least -/
def LeastP (w : List Nat) (p : Nat) : Prop := Pd w p ∧ ∀ q, Pd w q → p ≤ q
theorem pers_head {w : List Nat} (hw : w ≠ []) : ∃ p : Nat, (pers w)[0]? = some (p : Int) ∧ LeastP w p := by
  have h0 : 0 < w.length := List.length_pos_iff.mpr hw
  have hm : (w.length : Int) ∈ pers w := mem_pers.mpr ⟨w.length, rfl, h0, Nat.le_refl _, by rw [Nat.sub_self]; exact Bd.zero h0 (Nat.le_refl _)⟩
  have hs := pers_sorted w
  have hmem := @mem_pers w
  generalize pers w = l at hm hs hmem ⊢
  cases l with
  | nil => cases hm
  | cons x l =>
    obtain ⟨p, rfl, hp⟩ := hmem.mp List.mem_cons_self
    refine ⟨p, rfl, hp, fun q hq => ?_⟩
    have := hmem.mpr ⟨q, rfl, hq⟩
    rcases List.mem_cons.mp this with h | h
    · omega
    · have := (List.pairwise_cons.mp hs).1 _ h
      omega
theorem Pd.twice {w : List Nat} (hw : w ≠ []) : Pd (w ++ w) w.length := by
  have h0 : 0 < w.length := List.length_pos_iff.mpr hw
  rw [Pd_iff]
  refine ⟨h0, by rw [List.length_append]; omega, fun j hj => ?_⟩
  rw [List.length_append] at hj
  rw [List.getElem?_append_left (by omega), List.getElem?_append_right (by omega)]
  congr 1
  omega
theorem twice_mem {w : List Nat} (hw : w ≠ []) : (w.length : Int) ∈ pers (w ++ w) := mem_pers.mpr ⟨_, rfl, Pd.twice hw⟩
theorem twice_bs {w : List Nat} (hw : w ≠ []) : (w.length : Int) ∈ nI (bs (w ++ w) (w ++ w).length) := by
  refine mem_nI.mpr ⟨_, mem_bs.mpr ?_, rfl⟩
  have := (Pd.twice hw).2.2
  rwa [List.length_append, show w.length + w.length - w.length = w.length by omega, ← List.length_append] at this
theorem twice_dvd {w : List Nat} {p : Nat} (hw : w ≠ []) (h : LeastP (w ++ w) p) : (w.length : Int) % (p : Int) = 0 := by
  have a := Pd.twice hw
  have hle := h.2 _ a
  have g := Pd.gcd _ (Nat.le_refl _) h.1 a (by rw [List.length_append]; omega)
  have h1 := h.2 _ g
  have h2 : Nat.gcd p w.length ∣ p := Nat.gcd_dvd_left _ _
  have e : Nat.gcd p w.length = p := Nat.le_antisymm (Nat.le_of_dvd h.1.1 h2) h1
  have h3 : p ∣ w.length := by
    have := Nat.gcd_dvd_right p w.length
    rwa [e] at this
  exact Int.emod_eq_zero_of_dvd (Int.natCast_dvd_natCast.mpr h3)
theorem pers_gcd {w : List Nat} {a b : Int} (ha : a ∈ pers w) (hb : b ∈ pers w) (h : a + b ≤ w.length) : (Int.gcd a b : Int) ∈ pers w := by
  obtain ⟨p, rfl, hp⟩ := mem_pers.mp ha
  obtain ⟨q, rfl, hq⟩ := mem_pers.mp hb
  exact mem_pers.mpr ⟨_, rfl, Pd.gcd _ (Nat.le_refl _) hp hq (by omega)⟩
theorem longer_mem {w : List Nat} {c : Nat} {s : Int} (h : s ∈ nI (bs (w ++ [c]) (w ++ [c]).length)) (h0 : 0 < s) : s - 1 ∈ nI (bs w w.length) := by
  obtain ⟨k, hk, rfl⟩ := mem_nI.mp h
  have hb := mem_bs.mp hk
  rw [List.length_append, List.length_singleton] at hb
  obtain ⟨k, rfl⟩ : ∃ k', k = k' + 1 := ⟨k - 1, by omega⟩
  exact mem_nI.mpr ⟨k, mem_bs.mpr ((Bd.app (Nat.le_refl _)).mp hb.pred.1), by omega⟩
theorem bs_ne {w : List Nat} (hw : w ≠ []) : 0 < (nI (bs w w.length)).length := by
  have h0 : 0 < w.length := List.length_pos_iff.mpr hw
  have : (0 : Nat) ∈ bs w w.length := mem_bs.mpr (Bd.zero h0 (Nat.le_refl _))
  rw [nI_len]
  exact List.length_pos_of_mem this
theorem bs_ends {w : List Nat} {x : Nat} (h : (nI (bs w w.length))[(nI (bs w w.length)).length - 1]? = some (x : Int)) : x ≤ w.length ∧ bs w w.length = bs (w.take x) (w.take x).length ++ [x] := by
  have hm := List.mem_of_getElem? h
  obtain ⟨k, hk, e⟩ := mem_nI.mp hm
  have ek : x = k := by omega
  have hlt := bs_lt hk
  obtain ⟨t, ht, e2⟩ := bs_last (w := w) (i := w.length) (by omega) (Nat.le_refl _)
  have : (x : Int) = t := by
    rw [e2, nI_app, List.length_append] at h
    rw [List.getElem?_append_right (by show _ ≤ _ + 1 - 1; omega)] at h
    have h' : (nI [t])[(nI (bs w t)).length + 1 - 1 - (nI (bs w t)).length]? = some (x : Int) := h
    rw [show (nI (bs w t)).length + 1 - 1 - (nI (bs w t)).length = 0 by omega] at h'
    exact (Option.some.inj h').symm
  have et : x = t := by omega
  subst et
  have hx : x ≤ w.length := by omega
  have hl : (w.take x).length = x := by rw [List.length_take]; omega
  refine ⟨hx, ?_⟩
  rw [hl, bs_take hx]
  exact e2
end M00

set_option autoImplicit false
set_option linter.all false
/-! powers and turns of words: the mathematics -/
namespace M01
open M00
def pw (r : List Nat) (t : Nat) : List Nat := (List.replicate t r).flatten
def rot (x : List Nat) (i : Nat) : List Nat := x.drop i ++ x.take i
theorem pw_len (r : List Nat) (t : Nat) : (pw r t).length = t * r.length := by
  unfold pw
  rw [List.length_flatten, List.map_replicate, List.sum_replicate_nat]
theorem pw_succ (r : List Nat) (t : Nat) : pw r (t + 1) = r ++ pw r t := by
  unfold pw
  rw [List.replicate_succ, List.flatten_cons]
theorem pw_get {r : List Nat} : ∀ (t j : Nat), j < t * r.length → (pw r t)[j]? = r[j % r.length]?
  | 0, j, h => by omega
  | t + 1, j, h => by
    rw [pw_succ]
    by_cases c : j < r.length
    · rw [List.getElem?_append_left c, Nat.mod_eq_of_lt c]
    · rw [List.getElem?_append_right (by omega), pw_get t (j - r.length) (by rw [Nat.succ_mul] at h; omega), ← Nat.mod_eq_sub_mod (by omega)]
theorem rot_len (x : List Nat) (i : Nat) : (rot x i).length = x.length := by
  unfold rot
  rw [List.length_append, List.length_drop, List.length_take]
  omega
theorem rot_get {x : List Nat} {i j : Nat} (hi : i ≤ x.length) (hj : j < x.length) : (rot x i)[j]? = x[(i + j) % x.length]? := by
  unfold rot
  by_cases c : i + j < x.length
  · rw [List.getElem?_append_left (by rw [List.length_drop]; omega), List.getElem?_drop, Nat.mod_eq_of_lt c]
  · rw [List.getElem?_append_right (by rw [List.length_drop]; omega), List.length_drop, List.getElem?_take_of_lt (by omega), Nat.mod_eq_sub_mod (by omega), Nat.mod_eq_of_lt (by omega)]
    congr 1
    omega
theorem ext_lt {a b : List Nat} (hl : a.length = b.length) (h : ∀ j, j < a.length → a[j]? = b[j]?) : a = b := by
  apply List.ext_getElem?
  intro j
  by_cases c : j < a.length
  · exact h j c
  · rw [List.getElem?_eq_none (by omega), List.getElem?_eq_none (by omega)]
/-- x turned by i is x -/
def Sh (x : List Nat) (i : Nat) : Prop := ∀ j, x[(j + i) % x.length]? = x[j % x.length]?
theorem sh_rot {x : List Nat} {i : Nat} (hi : i ≤ x.length) : rot x i = x ↔ Sh x i := by
  constructor
  · intro h j
    rcases Nat.eq_zero_or_pos x.length with z | z
    · rw [List.length_eq_zero_iff.mp z]; rfl
    · have hj := Nat.mod_lt j z
      have e := rot_get hi hj
      rw [h] at e
      rw [e, Nat.add_comm i, Nat.mod_add_mod]
  · intro h
    refine ext_lt (rot_len x i) fun j hj => ?_
    rw [rot_len] at hj
    rw [rot_get hi hj, Nat.add_comm, h j, Nat.mod_eq_of_lt hj]
theorem Sh.zero (x : List Nat) : Sh x 0 := fun j => rfl
theorem Sh.full (x : List Nat) : Sh x x.length := fun j => by rw [Nat.add_mod_right]
theorem Sh.add {x : List Nat} {a b : Nat} (ha : Sh x a) (hb : Sh x b) : Sh x (a + b) := fun j => by rw [← Nat.add_assoc, hb (j + a), ha j]
theorem Sh.sub {x : List Nat} {a b : Nat} (ha : Sh x a) (hab : Sh x (a + b)) : Sh x b := fun j => by
  have h1 := ha (j + b)
  have h2 := hab j
  rw [show j + (a + b) = j + b + a by omega] at h2
  rw [← h1, h2]
theorem Sh.mul {x : List Nat} {a : Nat} (ha : Sh x a) : ∀ k, Sh x (a * k)
  | 0 => Sh.zero x
  | k + 1 => by rw [Nat.mul_succ]; exact (Sh.mul ha k).add ha
theorem least {p : Nat → Prop} : ∀ n, p n → ∃ k, k ≤ n ∧ p k ∧ ∀ j, j < k → ¬ p j := by
  intro n
  induction n using Nat.strongRecOn with
  | _ n ih =>
    intro hn
    by_cases c : ∃ m, m < n ∧ p m
    · obtain ⟨m, hm, pm⟩ := c
      obtain ⟨k, k1, k2, k3⟩ := ih m hm pm
      exact ⟨k, by omega, k2, k3⟩
    · exact ⟨n, Nat.le_refl _, hn, fun j hj hp => c ⟨j, hj, hp⟩⟩
/-- the length of the root -/
structure Per (x : List Nat) (s : Nat) : Prop where
  pos : 1 ≤ s
  le : s ≤ x.length
  sh : Sh x s
  min : ∀ i, 1 ≤ i → Sh x i → s ≤ i
theorem per_ex {x : List Nat} (hx : x ≠ []) : ∃ s, Per x s := by
  have h0 : 0 < x.length := List.length_pos_iff.mpr hx
  obtain ⟨k, k1, ⟨k2, k3⟩, k4⟩ := least (p := fun i => 1 ≤ i ∧ Sh x i) x.length ⟨h0, Sh.full x⟩
  exact ⟨k, k2, k1, k3, fun i h1 h2 => by
    rcases Nat.lt_or_ge i k with c | c
    · exact absurd ⟨h1, h2⟩ (k4 i c)
    · exact c⟩
theorem Per.dvd {x : List Nat} {s i : Nat} (P : Per x s) (h : Sh x i) : i % s = 0 := by
  have hr : Sh x (i % s) := Sh.sub (P.sh.mul (i / s)) (by rw [Nat.div_add_mod]; exact h)
  rcases Nat.eq_zero_or_pos (i % s) with z | z
  · exact z
  · have := P.min _ z hr
    have := Nat.mod_lt i P.pos
    omega
theorem Per.uniq {x : List Nat} {s t : Nat} (P : Per x s) (Q : Per x t) : s = t := Nat.le_antisymm (P.min t Q.pos Q.sh) (Q.min s P.pos P.sh)
theorem Per.div {x : List Nat} {s : Nat} (P : Per x s) : x.length % s = 0 := P.dvd (Sh.full x)
/-- as a power -/
theorem sh_pw {x : List Nat} {s : Nat} (h1 : 1 ≤ s) (h2 : s ≤ x.length) (hd : x.length % s = 0) : pw (x.take s) (x.length / s) = x ↔ Sh x s := by
  have hl : (x.take s).length = s := by rw [List.length_take]; omega
  have hn : x.length / s * s = x.length := Nat.div_mul_cancel (Nat.dvd_of_mod_eq_zero hd)
  have hmm : ∀ j, j % x.length % s = j % s := fun j => Nat.mod_mod_of_dvd j (Nat.dvd_of_mod_eq_zero hd)
  have h0 : 0 < x.length := by omega
  constructor
  · intro h j
    have key : ∀ i, i < x.length → x[i]? = x[i % s]? := fun i hi => by
      have e := pw_get (r := x.take s) (x.length / s) i (by rw [hl, hn]; exact hi)
      rw [h, hl, List.getElem?_take_of_lt (Nat.mod_lt _ h1)] at e
      exact e
    rw [key _ (Nat.mod_lt _ h0), key (j % x.length) (Nat.mod_lt _ h0), hmm, hmm, Nat.add_mod_right]
  · intro h
    refine ext_lt (by rw [pw_len, hl, hn]) fun j hj => ?_
    rw [pw_len, hl] at hj
    rw [pw_get _ j (by rw [hl]; exact hj), hl, List.getElem?_take_of_lt (Nat.mod_lt _ h1)]
    have e := h.mul (j / s) (j % s)
    rw [Nat.add_comm, Nat.div_add_mod, Nat.mod_eq_of_lt (by omega), Nat.mod_eq_of_lt (by have := Nat.mod_lt j h1; omega)] at e
    exact e.symm
theorem Per.pw {x : List Nat} {s : Nat} (P : Per x s) : M01.pw (x.take s) (x.length / s) = x := (sh_pw P.pos P.le P.div).mpr P.sh
/-- periods -/
theorem sh_pd {x : List Nat} {s : Nat} (h1 : 1 ≤ s) (h2 : s ≤ x.length) (h : Sh x s) : Pd x s := by
  rw [Pd_iff]
  refine ⟨h1, h2, fun j hj => ?_⟩
  have := h j
  rw [Nat.mod_eq_of_lt hj, Nat.mod_eq_of_lt (by omega)] at this
  exact this.symm
theorem pd_sh {x : List Nat} {s : Nat} (h : Pd x s) (hd : x.length % s = 0) : Sh x s := by
  rw [Pd_iff] at h
  obtain ⟨h1, h2, h3⟩ := h
  refine (sh_pw h1 h2 hd).mp ?_
  have hl : (x.take s).length = s := by rw [List.length_take]; omega
  have hn : x.length / s * s = x.length := Nat.div_mul_cancel (Nat.dvd_of_mod_eq_zero hd)
  have key : ∀ q i, i < s → q * s + i < x.length → x[q * s + i]? = x[i]? := by
    intro q
    induction q with
    | zero => intro i _ _; rw [Nat.zero_mul, Nat.zero_add]
    | succ q ih =>
      intro i hi hq
      rw [Nat.succ_mul] at hq ⊢
      rw [show q * s + s + i = q * s + i + s by omega, ← h3 (q * s + i) (by omega)]
      exact ih i hi (by omega)
  refine ext_lt (by rw [pw_len, hl, hn]) fun j hj => ?_
  rw [pw_len, hl] at hj
  rw [pw_get _ j (by rw [hl]; exact hj), hl, List.getElem?_take_of_lt (Nat.mod_lt _ h1)]
  have := key (j / s) (j % s) (Nat.mod_lt _ h1) (by rw [Nat.mul_comm, Nat.div_add_mod]; omega)
  rw [Nat.mul_comm, Nat.div_add_mod] at this
  exact this.symm
/-- root_of's two cases -/
theorem per_yes {x : List Nat} {p : Nat} (h : LeastP x p) (hd : x.length % p = 0) : Per x p := by
  obtain ⟨s, P⟩ := per_ex (x := x) (fun z => by have := h.1.2.1; have := h.1.1; rw [z] at *; simp at *; omega)
  have h1 := h.2 s (sh_pd P.pos P.le P.sh)
  have h2 := P.min p h.1.1 (pd_sh h.1 hd)
  have e : s = p := Nat.le_antisymm h2 h1
  rw [← e]
  exact P
theorem per_no {x : List Nat} {p : Nat} (h : LeastP x p) (hd : ¬ x.length % p = 0) : Per x x.length := by
  obtain ⟨s, P⟩ := per_ex (x := x) (fun z => by have := h.1.2.1; have := h.1.1; rw [z] at *; simp at *; omega)
  have pd := sh_pd P.pos P.le P.sh
  have h1 := h.2 s pd
  rcases Nat.lt_or_ge s x.length with c | c
  · exfalso
    obtain ⟨k, hk⟩ := Nat.dvd_of_mod_eq_zero P.div
    have hk2 : 2 ≤ k := by
      rcases k with _ | _ | k
      · omega
      · omega
      · omega
    have : s * 2 ≤ s * k := Nat.mul_le_mul_left s hk2
    have g := Pd.gcd _ (Nat.le_refl _) h.1 pd (by omega)
    have g1 := h.2 _ g
    have g2 : Nat.gcd p s ∣ p := Nat.gcd_dvd_left p s
    have e : Nat.gcd p s = p := Nat.le_antisymm (Nat.le_of_dvd h.1.1 g2) g1
    have g3 : p ∣ s := by
      have := Nat.gcd_dvd_right p s
      rwa [e] at this
    exact hd (Nat.mod_eq_zero_of_dvd (Nat.dvd_trans g3 (Nat.dvd_of_mod_eq_zero P.div)))
  · have e : s = x.length := Nat.le_antisymm P.le c
    rw [← e]
    exact P
end M01

set_option autoImplicit false
set_option linter.all false
namespace M01
open M00
theorem Per.tl {x : List Nat} {s : Nat} (P : Per x s) : (x.take s).length = s := by
  rw [List.length_take]
  have := P.le
  omega
theorem Per.nn {x : List Nat} {s : Nat} (P : Per x s) : x.length / s * s = x.length := Nat.div_mul_cancel (Nat.dvd_of_mod_eq_zero P.div)
theorem Per.root {x : List Nat} {s : Nat} (P : Per x s) (j : Nat) : x[j % x.length]? = (x.take s)[j % s]? := by
  have h0 : 0 < x.length := by have := P.pos; have := P.le; omega
  have e := pw_get (r := x.take s) (x.length / s) (j % x.length) (by rw [P.tl, P.nn]; exact Nat.mod_lt _ h0)
  rw [P.pw, P.tl, Nat.mod_mod_of_dvd j (Nat.dvd_of_mod_eq_zero P.div)] at e
  exact e
theorem Per.prim {x : List Nat} {s i : Nat} (P : Per x s) (h : Sh (x.take s) i) : i % s = 0 := by
  refine P.dvd fun j => ?_
  have := h j
  rw [P.tl] at this
  rw [P.root, P.root, this]
theorem rot_pw {x : List Nat} {s i : Nat} (P : Per x s) (hi : i ≤ x.length) : rot x i = pw (rot (x.take s) (i % s)) (x.length / s) := by
  have h1 := P.pos
  refine ext_lt (by rw [rot_len, pw_len, rot_len, P.tl, P.nn]) fun j hj => ?_
  rw [rot_len] at hj
  rw [rot_get hi hj, P.root, pw_get _ j (by rw [rot_len, P.tl, P.nn]; exact hj), rot_len, P.tl]
  rw [rot_get (by rw [P.tl]; exact Nat.le_of_lt (Nat.mod_lt _ h1)) (by rw [P.tl]; exact Nat.mod_lt _ h1), P.tl, ← Nat.add_mod]
theorem rot_sh {x : List Nat} {i j : Nat} (hi : i ≤ j) (hj : j ≤ x.length) (h : rot x i = rot x j) : Sh x (j - i) := by
  rcases Nat.eq_zero_or_pos x.length with z | z
  · intro k; rw [List.length_eq_zero_iff.mp z]; rfl
  · have key : ∀ m, x[(i + m) % x.length]? = x[(j + m) % x.length]? := fun m => by
      have hm := Nat.mod_lt m z
      have e1 := rot_get (x := x) (i := i) (by omega) hm
      have e2 := rot_get (x := x) (i := j) hj hm
      rw [Nat.add_mod_mod] at e1 e2
      rw [← e1, ← e2, h]
    intro k
    have := key (k + (x.length - i))
    rw [show i + (k + (x.length - i)) = k + x.length by omega, show j + (k + (x.length - i)) = k + (j - i) + x.length by omega, Nat.add_mod_right, Nat.add_mod_right] at this
    exact this.symm
theorem rot_inj {x : List Nat} {s i j : Nat} (P : Per x s) (hi : i ≤ x.length) (hj : j ≤ x.length) : rot x i = rot x j ↔ i % s = j % s := by
  constructor
  · intro h
    have aux : ∀ a b, a ≤ b → b ≤ x.length → rot x a = rot x b → a % s = b % s := fun a b hab hb e => by
      have := P.dvd (rot_sh hab hb e)
      have e2 : b = a + (b - a) := by omega
      rw [e2, Nat.add_mod, this, Nat.add_zero, Nat.mod_mod]
    rcases Nat.le_total i j with c | c
    · exact aux i j c hj h
    · exact (aux j i c hi h.symm).symm
  · intro h
    rw [rot_pw P hi, rot_pw P hj, h]
/-! places -/
theorem cut_rot {x : List Nat} {i : Nat} (hi : i ≤ x.length) : ((x ++ x).drop i).take x.length = rot x i := by
  unfold rot
  rw [List.drop_append_of_le_length hi, List.take_append, List.length_drop, List.take_of_length_le (by rw [List.length_drop]; omega), show x.length - (x.length - i) = i by omega]
theorem filt_len {α β : Type} (f : α → β) (q : β → Bool) (l : List α) : ((l.map f).filter q).length = (l.filter fun x => q (f x)).length := by
  rw [List.filter_map, List.length_map]
  rfl
theorem multiples {s : Nat} (hs : 1 ≤ s) : ∀ t, ((List.range (t * s + 1)).filter fun i => i % s == 0).length = t + 1
  | 0 => by simp
  | t + 1 => by
    have ih := multiples hs t
    rw [show (t + 1) * s + 1 = (t * s + 1) + s by rw [Nat.succ_mul]; omega, List.range_add, List.filter_append, List.length_append, ih, filt_len]
    obtain ⟨m, rfl⟩ : ∃ m, s = m + 1 := ⟨s - 1, by omega⟩
    rw [List.range_succ, List.filter_append, List.filter_eq_nil_iff.mpr, List.filter_cons_of_pos]
    · rfl
    · have : (t * (m + 1) + 1 + m) % (m + 1) = 0 := by
        rw [show t * (m + 1) + 1 + m = (t + 1) * (m + 1) by rw [Nat.succ_mul]; omega]
        exact Nat.mul_mod_left _ _
      simpa using this
    · intro j hj
      have hj := List.mem_range.mp hj
      have : (t * (m + 1) + 1 + j) % (m + 1) = 1 + j := by
        rw [Nat.add_assoc, Nat.add_comm, Nat.add_mul_mod_self_right, Nat.mod_eq_of_lt (by omega)]
      simp [this]
def places (x : List Nat) : List Nat := (List.range (x.length + 1)).filter fun i => decide (((x ++ x).drop i).take x.length = x)
theorem places_len {x : List Nat} {s : Nat} (P : Per x s) : (places x).length = x.length / s + 1 := by
  have e : places x = (List.range (x.length / s * s + 1)).filter fun i => i % s == 0 := by
    unfold places
    rw [P.nn]
    apply List.filter_congr
    intro i hi
    have hi := List.mem_range.mp hi
    rw [cut_rot (by omega)]
    by_cases c : rot x i = x
    · rw [decide_eq_true c, P.dvd ((sh_rot (by omega)).mp c)]
      rfl
    · rw [decide_eq_false c]
      symm
      have : ¬ i % s = 0 := fun z => c (by
        have := (rot_inj P (i := i) (j := 0) (by omega) (Nat.zero_le _)).mpr (by rw [z, Nat.zero_mod])
        rw [this]
        unfold rot
        simp)
      simpa using this
  rw [e, multiples P.pos]
/-! in order -/
theorem app_lt : ∀ {a b : List Nat} (u v : List Nat), a.length = b.length → a < b → a ++ u < b ++ v
  | [], [], _, _, _, h => absurd h (List.lt_irrefl _)
  | [], _ :: _, _, _, h, _ => by cases h
  | _ :: _, [], _, _, h, _ => by cases h
  | x :: a, y :: b, u, v, h, hl => by
    rw [List.cons_append, List.cons_append, List.cons_lt_cons_iff]
    rcases List.cons_lt_cons_iff.mp hl with c | ⟨c, d⟩
    · exact .inl c
    · exact .inr ⟨c, app_lt u v (by simpa using h) d⟩
theorem lt_pw {a b : List Nat} {t : Nat} (ht : 1 ≤ t) (hl : a.length = b.length) (h : a < b) : pw a t < pw b t := by
  obtain ⟨t, rfl⟩ : ∃ k, t = k + 1 := ⟨t - 1, by omega⟩
  rw [pw_succ, pw_succ]
  exact app_lt _ _ hl h
theorem asc_uniq : ∀ {a b : List (List Nat)}, a.Pairwise (· < ·) → b.Pairwise (· < ·) → (∀ y, y ∈ a ↔ y ∈ b) → a = b
  | [], [], _, _, _ => rfl
  | [], y :: b, _, _, h => absurd ((h y).mpr List.mem_cons_self) (by simp)
  | x :: a, [], _, _, h => absurd ((h x).mp List.mem_cons_self) (by simp)
  | x :: a, y :: b, ha, hb, h => by
    obtain ⟨a1, a2⟩ := List.pairwise_cons.mp ha
    obtain ⟨b1, b2⟩ := List.pairwise_cons.mp hb
    have e : x = y := by
      rcases List.mem_cons.mp ((h x).mp List.mem_cons_self) with z | z
      · exact z
      · rcases List.mem_cons.mp ((h y).mpr List.mem_cons_self) with z' | z'
        · exact z'.symm
        · exact absurd (a1 y z') (List.lt_asymm (b1 x z))
    subst e
    rw [asc_uniq a2 b2 fun z => ?_]
    constructor
    · intro hz
      rcases List.mem_cons.mp ((h z).mp (List.mem_cons_of_mem _ hz)) with q | q
      · exact absurd (a1 z hz) (by rw [q]; exact List.lt_irrefl _)
      · exact q
    · intro hz
      rcases List.mem_cons.mp ((h z).mpr (List.mem_cons_of_mem _ hz)) with q | q
      · exact absurd (b1 z hz) (by rw [q]; exact List.lt_irrefl _)
      · exact q
def rots (x : List Nat) : List (List Nat) := (List.range (max 1 x.length)).map (rot x)
theorem Per.n1 {x : List Nat} {s : Nat} (P : Per x s) : 1 ≤ x.length := Nat.le_trans P.pos P.le
theorem rots_map {x : List Nat} {s : Nat} (P : Per x s) {ys zs : List (List Nat)} (h1 : ys.Pairwise (· < ·)) (h2 : ∀ y, y ∈ ys ↔ y ∈ rots x) (h3 : zs.Pairwise (· < ·)) (h4 : ∀ y, y ∈ zs ↔ y ∈ rots (x.take s)) :
    ys = zs.map fun z => pw z (x.length / s) := by
  have ht : 1 ≤ x.length / s := Nat.div_pos P.le P.pos
  have hlen : ∀ z ∈ zs, z.length = s := fun z hz => by
    obtain ⟨i, _, rfl⟩ := List.mem_map.mp ((h4 z).mp hz)
    rw [rot_len, P.tl]
  refine asc_uniq h1 ?_ fun y => ?_
  · rw [List.pairwise_map]
    exact h3.imp_of_mem fun {a b} ha hb hab => lt_pw ht (by rw [hlen a ha, hlen b hb]) hab
  · rw [h2, List.mem_map]
    unfold rots
    rw [List.mem_map]
    constructor
    · rintro ⟨i, hi, rfl⟩
      have hi := List.mem_range.mp hi
      have := P.n1
      refine ⟨rot (x.take s) (i % s), (h4 _).mpr ?_, (rot_pw P (by omega)).symm⟩
      unfold rots
      refine List.mem_map.mpr ⟨i % s, List.mem_range.mpr ?_, rfl⟩
      rw [P.tl]
      have := Nat.mod_lt i P.pos
      omega
    · rintro ⟨z, hz, rfl⟩
      have hz := (h4 z).mp hz
      unfold rots at hz
      obtain ⟨j, hj, rfl⟩ := List.mem_map.mp hz
      have hj := List.mem_range.mp hj
      rw [P.tl] at hj
      have h1 := P.pos
      have h2 := P.le
      have hjs : j < s := by omega
      refine ⟨j, List.mem_range.mpr (by omega), ?_⟩
      rw [rot_pw P (by omega), Nat.mod_eq_of_lt hjs]
theorem perm_len {a b : List (List Nat)} (ha : a.Nodup) (hb : b.Nodup) (h : ∀ y, y ∈ a ↔ y ∈ b) : a.length = b.length :=
  ((List.perm_ext_iff_of_nodup ha hb).mpr h).length_eq
theorem rots_nodup {x : List Nat} {s : Nat} (P : Per x s) : (rots (x.take s)).Nodup := by
  unfold rots
  refine List.pairwise_map.mpr (List.nodup_range.imp_of_mem fun {i j} hi hj hne e => ?_)
  have hi := List.mem_range.mp hi
  have hj := List.mem_range.mp hj
  rw [P.tl] at hi hj
  have h1 := P.pos
  have aux : ∀ a b, a < b → b < s → rot (x.take s) a = rot (x.take s) b → False := fun a b hab hb e => by
    have := P.prim (rot_sh (Nat.le_of_lt hab) (by rw [P.tl]; omega) e)
    rw [Nat.mod_eq_of_lt (by omega)] at this
    omega
  rcases Nat.lt_trichotomy i j with c | c | c
  · exact aux i j c (by omega) e
  · exact hne c
  · exact aux j i c (by omega) e.symm
theorem rots_count {x : List Nat} {s : Nat} (P : Per x s) {zs : List (List Nat)} (h3 : zs.Pairwise (· < ·)) (h4 : ∀ y, y ∈ zs ↔ y ∈ rots (x.take s)) : zs.length = s := by
  have hn : zs.Nodup := h3.imp fun {a b} h e => by rw [e] at h; exact List.lt_irrefl _ h
  rw [perm_len hn (rots_nodup P) h4]
  unfold rots
  rw [List.length_map, List.length_range, P.tl]
  have := P.pos
  omega
theorem rots_nil {ys : List (List Nat)} (h1 : ys.Pairwise (· < ·)) (h2 : ∀ y, y ∈ ys ↔ y ∈ rots []) : ys = [[]] :=
  asc_uniq h1 (List.pairwise_singleton _ _) fun y => by rw [h2]; rfl
/-! words that commute -/
theorem pw_add (r : List Nat) : ∀ a b, pw r a ++ pw r b = pw r (a + b)
  | 0, b => by rw [Nat.zero_add]; rfl
  | a + 1, b => by rw [pw_succ, List.append_assoc, pw_add r a b, ← pw_succ, Nat.succ_add]
theorem pw_zero (r : List Nat) : pw r 0 = [] := rfl
theorem per_pw {x : List Nat} {s m : Nat} (P : Per x s) (hm : 1 ≤ m) : Per (pw (x.take s) m) s ∧ (pw (x.take s) m).take s = x.take s ∧ (pw (x.take s) m).length = m * s := by
  have hl : (pw (x.take s) m).length = m * s := by rw [pw_len, P.tl]
  have h1 := P.pos
  have hms : s ≤ m * s := Nat.le_mul_of_pos_left s hm
  have key : ∀ j, (pw (x.take s) m)[j % (m * s)]? = (x.take s)[j % s]? := fun j => by
    have e := pw_get (r := x.take s) m (j % (m * s)) (by rw [P.tl]; exact Nat.mod_lt _ (by omega))
    rw [P.tl, Nat.mod_mod_of_dvd j ⟨m, Nat.mul_comm m s⟩] at e
    exact e
  refine ⟨⟨h1, by rw [hl]; exact hms, fun j => ?_, fun i hi hs => ?_⟩, ?_, hl⟩
  · rw [hl, key, key, Nat.add_mod_right]
  · have : i % s = 0 := P.prim fun j => by
      have := hs j
      rw [hl, key, key] at this
      rw [P.tl]
      exact this
    exact Nat.le_of_dvd hi (Nat.dvd_of_mod_eq_zero this)
  · obtain ⟨m, rfl⟩ : ∃ k, m = k + 1 := ⟨m - 1, by omega⟩
    rw [pw_succ]
    have e : ((x.take s) ++ pw (x.take s) m).take (x.take s).length = x.take s := List.take_left
    rw [P.tl] at e
    exact e
theorem all_c {c : Nat} : ∀ {f : List Nat}, f ++ [c] = c :: f → f = List.replicate f.length c
  | [], _ => rfl
  | y :: f, h => by
    rw [List.cons_append] at h
    obtain ⟨h1, h2⟩ := List.cons.inj h
    subst h1
    rw [List.length_cons, List.replicate_succ, ← all_c h2]
/-- a power of the root that commutes with itself and a letter more: the root is the letter -/
theorem root_letter {x : List Nat} {s a c : Nat} (P : Per x s) (ha : 1 ≤ a) (h : pw (x.take s) a ++ (pw (x.take s) a ++ [c]) = (pw (x.take s) a ++ [c]) ++ pw (x.take s) a) : x.take s = [c] := by
  obtain ⟨Q, q1, q2⟩ := per_pw P ha
  have h2 : pw (x.take s) a ++ [c] = c :: pw (x.take s) a := by
    rw [List.append_assoc] at h
    exact List.append_cancel_left h
  have h3 := all_c h2
  have h4 : x.take s = List.replicate s c := by
    rw [← q1, h3, List.take_replicate, Nat.min_eq_left (by rw [q2]; exact Nat.le_mul_of_pos_left s ha)]
  have h5 : 1 % s = 0 := P.prim fun j => by
    have h1 := P.pos
    rw [h4, List.length_replicate, List.getElem?_replicate, List.getElem?_replicate, if_pos (Nat.mod_lt _ h1), if_pos (Nat.mod_lt _ h1)]
  have h6 : s = 1 := by
    have h1 := P.pos
    rcases Nat.lt_or_ge 1 s with z | z
    · rw [Nat.mod_eq_of_lt z] at h5; cases h5
    · omega
  rw [h4, h6]
  rfl
end M01

set_option autoImplicit false
set_option linter.all false
namespace M01
open M00
/-- r and t are x's root and its times -/
def RT (x r : List Nat) (t : Nat) : Prop := (x = [] ∧ r = [] ∧ t = 0) ∨ ∃ s, Per x s ∧ r = x.take s ∧ t = x.length / s
theorem places_nil : (places []).length = 1 := by decide
theorem rt_conj {x r : List Nat} {t : Nat} (h : RT x r t) {ys zs : List (List Nat)} (h1 : ys.Pairwise (· < ·)) (h2 : ∀ y, y ∈ ys ↔ y ∈ rots x) (h3 : zs.Pairwise (· < ·)) (h4 : ∀ y, y ∈ zs ↔ y ∈ rots r) :
    ys = (zs.map fun z => pw z t) ∧ zs.length = max 1 r.length := by
  rcases h with ⟨rfl, rfl, rfl⟩ | ⟨s, P, rfl, rfl⟩
  · rw [rots_nil h1 h2, rots_nil h3 h4]
    exact ⟨rfl, rfl⟩
  · refine ⟨rots_map P h1 h2 h3 h4, ?_⟩
    rw [rots_count P h3 h4, P.tl]
    have := P.pos
    omega
theorem rt_turn {x r : List Nat} {t : Nat} (h : RT x r t) {a : Nat} (ha : a < max 1 x.length) : a % max 1 r.length < max 1 x.length ∧ rot x (a % max 1 r.length) = rot x a ∧ ∀ j, j < a % max 1 r.length → rot x j ≠ rot x a := by
  rcases h with ⟨rfl, rfl, rfl⟩ | ⟨s, P, rfl, rfl⟩
  · have h0 : a = 0 := by simpa using ha
    subst h0
    exact ⟨by decide, rfl, fun j hj => absurd hj (by simp)⟩
  · have p1 := P.pos
    have p2 := P.le
    rw [P.tl, show max 1 s = s by omega]
    have hm := Nat.mod_lt a p1
    refine ⟨by omega, (rot_inj P (by omega) (by omega)).mpr (Nat.mod_mod _ _), fun j hj e => ?_⟩
    have := (rot_inj P (by omega) (by omega)).mp e
    rw [Nat.mod_eq_of_lt (by omega)] at this
    omega
theorem rt_comm {x r : List Nat} {t a b s' : Nat} (h : RT x r t) (hne : pw r a ++ pw r b ≠ []) (P' : Per (pw r a ++ pw r b) s') : (pw r a ++ pw r b).take s' = r ∧ s' = r.length := by
  rcases h with ⟨rfl, rfl, rfl⟩ | ⟨s, P, rfl, rfl⟩
  · exfalso
    apply hne
    rw [pw_add, ← List.length_eq_zero_iff, pw_len]
    rfl
  · rw [pw_add] at hne P' ⊢
    have hm : 1 ≤ a + b := by
      rcases Nat.eq_zero_or_pos (a + b) with z | z
      · rw [z] at hne; exact absurd rfl hne
      · exact z
    obtain ⟨Q, q1, q2⟩ := per_pw P hm
    have := P'.uniq Q
    subst this
    exact ⟨q1, P.tl.symm⟩
theorem rt_letter {x r : List Nat} {t a c : Nat} (h : RT x r t) (h1 : r ≠ []) (h2 : pw r a ≠ []) (he : pw r a ++ (pw r a ++ [c]) = (pw r a ++ [c]) ++ pw r a) : r = [c] := by
  rcases h with ⟨rfl, rfl, rfl⟩ | ⟨s, P, rfl, rfl⟩
  · exact absurd rfl h1
  · refine root_letter P (a := a) ?_ he
    rcases Nat.eq_zero_or_pos a with z | z
    · rw [z] at h2; exact absurd rfl h2
    · exact z
theorem RT.le {x r : List Nat} {t : Nat} (h : RT x r t) : r.length ≤ x.length ∧ t ≤ x.length ∧ (t * r.length = x.length) := by
  rcases h with ⟨rfl, rfl, rfl⟩ | ⟨s, P, rfl, rfl⟩
  · exact ⟨Nat.le_refl _, Nat.le_refl _, rfl⟩
  · exact ⟨by rw [P.tl]; exact P.le, Nat.div_le_self _ _, by rw [P.tl, P.nn]⟩
end M01

set_option autoImplicit false
set_option linter.all false
/-! Lyndon words: the mathematics -/
namespace M03
open M00 M01
def Lyn (x : List Nat) : Prop := x ≠ [] ∧ ∀ i, i < x.length → 0 < i → x < x.drop i
instance (x : List Nat) : Decidable (Lyn x) := inferInstanceAs (Decidable (_ ∧ _))
def LynF (g : Nat → Nat) (n : Nat) : Prop := ∀ i, 0 < i → i < n → ∃ j, i + j < n ∧ (∀ k, k < j → g k = g (i + k)) ∧ g j < g (i + j)
/-- the first unlike letter tells -/
def Mis (x y : List Nat) : Prop := ∃ (i a b : Nat), x[i]? = some a ∧ y[i]? = some b ∧ (∀ j, j < i → x[j]? = y[j]?) ∧ a < b
theorem mis_lt {x y : List Nat} (h : Mis x y) (u v : List Nat) : x ++ u < y ++ v := by
  obtain ⟨i, a, b, ha, hb, he, hlt⟩ := h
  obtain ⟨h1, e1⟩ := List.getElem?_eq_some_iff.mp ha
  obtain ⟨h2, e2⟩ := List.getElem?_eq_some_iff.mp hb
  rw [List.lt_iff_exists]
  right
  refine ⟨i, by rw [List.length_append]; omega, by rw [List.length_append]; omega, fun j hj => ?_, ?_⟩
  · have := he j hj
    rw [List.getElem_append_left (by omega), List.getElem_append_left (by omega)]
    rw [List.getElem?_eq_getElem (by omega), List.getElem?_eq_getElem (by omega)] at this
    exact Option.some.inj this
  · rw [List.getElem_append_left h1, List.getElem_append_left h2, e1, e2]
    exact hlt
theorem mis_lt' {x y : List Nat} (h : Mis x y) : x < y := by
  have := mis_lt h [] []
  rwa [List.append_nil, List.append_nil] at this
theorem lt_cases {x y : List Nat} (h : x < y) : Mis x y ∨ (x <+: y ∧ x.length < y.length) := by
  rcases List.lt_iff_exists.mp h with ⟨h1, h2⟩ | ⟨i, h1, h2, h3, h4⟩
  · right
    exact ⟨List.prefix_iff_eq_take.mpr h1, h2⟩
  · left
    refine ⟨i, _, _, List.getElem?_eq_getElem h1, List.getElem?_eq_getElem h2, fun j hj => ?_, h4⟩
    rw [List.getElem?_eq_getElem (by omega), List.getElem?_eq_getElem (by omega), h3 j hj]
theorem pre_of {x y : List Nat} (hl : x.length ≤ y.length) (h : ∀ j, j < x.length → x[j]? = y[j]?) : x <+: y := by
  rw [List.prefix_iff_eq_take]
  refine ext_lt (by rw [List.length_take]; omega) fun j hj => ?_
  rw [List.getElem?_take, if_pos hj]
  exact h j hj
theorem mis_of_len {x y : List Nat} (h : x < y) (hl : y.length ≤ x.length) : Mis x y := by
  rcases lt_cases h with h | ⟨_, h⟩
  · exact h
  · omega
theorem nle {x y : List Nat} (h : x ≤ y) : ¬ y < x := h
theorem le_of_lt {x y : List Nat} (h : x < y) : x ≤ y := List.lt_asymm h
theorem lt_le_trans {x y z : List Nat} (h : x < y) (k : y ≤ z) : x < z := by
  rcases List.le_iff_lt_or_eq.mp k with k | rfl
  · exact List.lt_trans h k
  · exact h
theorem prefix_le {x y : List Nat} (h : x <+: y) : x ≤ y := h.le
theorem lyn_iff {x : List Nat} {g : Nat → Nat} {n : Nat} (hl : x.length = n) (hn : 0 < n) (hx : ∀ i, i < n → x[i]? = some (g i)) : Lyn x ↔ LynF g n := by
  constructor
  · rintro ⟨_, h⟩ i h0 hi
    obtain ⟨j, a, b, e1, e2, e3, e4⟩ := mis_of_len (h i (by omega) h0) (by rw [List.length_drop]; omega)
    rw [List.getElem?_drop] at e2
    have hj : i + j < n := by have := (List.getElem?_eq_some_iff.mp e2).1; omega
    rw [hx _ hj] at e2
    rw [hx _ (by omega)] at e1
    cases e1
    cases e2
    refine ⟨j, hj, fun k hk => ?_, e4⟩
    have := e3 k hk
    rw [List.getElem?_drop, hx _ (by omega), hx _ (by omega)] at this
    exact Option.some.inj this
  · intro h
    refine ⟨fun e => by rw [e] at hl; simp at hl; omega, fun i hi h0 => ?_⟩
    obtain ⟨j, h1, h2, h3⟩ := h i h0 (by omega)
    refine mis_lt' ⟨j, g j, g (i + j), hx _ (by omega), by rw [List.getElem?_drop]; exact hx _ h1, fun k hk => ?_, h3⟩
    rw [List.getElem?_drop, hx _ (by omega), hx _ (by omega), h2 k hk]
theorem per_mod {g : Nat → Nat} {p n : Nat} (hp : 0 < p) (h : ∀ i, i + p < n → g i = g (i + p)) : ∀ i, i < n → g i = g (i % p) := by
  intro i
  induction i using Nat.strongRecOn with
  | _ i ih =>
    intro hi
    by_cases c : i < p
    · rw [Nat.mod_eq_of_lt c]
    · have e := h (i - p) (by omega)
      rw [show i - p + p = i by omega] at e
      rw [← e, ih (i - p) (by omega) (by omega), ← Nat.mod_eq_sub_mod (by omega)]
theorem duval_key {g : Nat → Nat} {p n : Nat} (hp : 0 < p) (hpn : p ≤ n) (hL : LynF g p) (hper : ∀ i, i + p < n → g i = g (i + p)) (hc : g (n - p) < g n) : LynF g (n + 1) := by
  intro i h0 hi
  have pm := per_mod hp hper
  have hnp : g (n - p) = g (n % p) := by rw [pm (n - p) (by omega), ← Nat.mod_eq_sub_mod hpn]
  have hr : i % p < p := Nat.mod_lt _ hp
  have am : ∀ k, i % p + k < p → (i + k) % p = i % p + k := fun k hk => by
    rw [Nat.add_mod, Nat.mod_eq_of_lt (show k < p by omega), Nat.mod_eq_of_lt hk]
  by_cases c : i % p = 0
  · have ge : p ≤ i := by
      by_cases q : i < p
      · rw [Nat.mod_eq_of_lt q] at c; omega
      · omega
    refine ⟨n - i, by omega, fun k hk => ?_, ?_⟩
    · rw [pm k (by omega), pm (i + k) (by omega), Nat.add_mod, c, Nat.zero_add, Nat.mod_mod]
    · rw [show i + (n - i) = n by omega, pm (n - i) (by omega)]
      have : (n - i) % p = n % p := by
        have e : n = (n - i) + i := by omega
        rw [e, Nat.add_mod, c, Nat.add_zero, Nat.mod_mod]
        congr 1
        omega
      rw [this, ← hnp]
      exact hc
  · obtain ⟨j, j1, j2, j3⟩ := hL (i % p) (by omega) hr
    by_cases d : i + j < n
    · refine ⟨j, by omega, fun k hk => ?_, ?_⟩
      · rw [j2 k hk, pm (i + k) (by omega), am k (by omega)]
      · rw [pm (i + j) d, am j j1]
        exact j3
    · refine ⟨n - i, by omega, fun k hk => ?_, ?_⟩
      · rw [j2 k (by omega), pm (i + k) (by omega), am k (by omega)]
      · have e : i + (n - i) = n := by omega
        have e2 : n % p = i % p + (n - i) := by
          have := am (n - i) (by omega)
          rwa [e] at this
        rw [e]
        refine Nat.lt_of_le_of_lt ?_ hc
        rw [hnp, e2]
        by_cases q : n - i < j
        · rw [j2 _ q]; exact Nat.le_refl _
        · rw [show n - i = j by omega]; exact Nat.le_of_lt j3
/-! Duval's way -/
def G (w : List Nat) (i : Nat) : Nat := w.getD i 0
theorem G_get {w : List Nat} {i : Nat} (h : i < w.length) : w[i]? = some (G w i) := by
  unfold G
  rw [List.getD_eq_getElem?_getD, List.getElem?_eq_getElem h]
  rfl
theorem G_of {w : List Nat} {i c : Nat} (h : w[i]? = some c) : G w i = c := by
  unfold G
  rw [List.getD_eq_getElem?_getD, h]
  rfl
structure Inner (w : List Nat) (s h o : Nat) : Prop where
  sh : s ≤ h
  ho : h < o
  on : o ≤ w.length
  lyn : LynF (fun i => G w (s + i)) (o - h)
  per : ∀ i, i + (o - h) < o - s → G w (s + i) = G w (s + (i + (o - h)))
theorem inner_start {w : List Nat} {s : Nat} (h : s < w.length) : Inner w s s (s + 1) :=
  ⟨Nat.le_refl _, Nat.lt_succ_self _, h, fun i h0 h1 => by omega, fun i hi => by omega⟩
theorem inner_eq {w : List Nat} {s h o : Nat} (I : Inner w s h o) (ho : o < w.length) (e : G w h = G w o) : Inner w s (h + 1) (o + 1) := by
  have e1 : o + 1 - (h + 1) = o - h := by omega
  have := I.sh
  have := I.ho
  refine ⟨by omega, by omega, ho, by rw [e1]; exact I.lyn, fun i hi => ?_⟩
  rw [e1] at hi ⊢
  by_cases c : i + (o - h) < o - s
  · exact I.per i c
  · rw [show s + i = h by omega, show s + (i + (o - h)) = o by omega]
    exact e
theorem inner_lt {w : List Nat} {s h o : Nat} (I : Inner w s h o) (ho : o < w.length) (e : G w h < G w o) : Inner w s s (o + 1) := by
  have := I.sh
  have := I.ho
  refine ⟨Nat.le_refl _, by omega, ho, ?_, fun i hi => by omega⟩
  rw [show o + 1 - s = (o - s) + 1 by omega]
  refine duval_key (p := o - h) (by omega) (by omega) I.lyn (fun i hi => I.per i hi) ?_
  show G w (s + _) < G w (s + _)
  rw [show s + (o - s - (o - h)) = h by omega, show s + (o - s) = o by omega]
  exact e
theorem inner_lyn {w : List Nat} {s h o : Nat} (I : Inner w s h o) : Lyn ((w.drop s).take (o - h)) := by
  have := I.sh
  have := I.ho
  have := I.on
  refine (lyn_iff (g := fun i => G w (s + i)) (n := o - h) (by rw [List.length_take, List.length_drop]; omega) (by omega) fun i hi => ?_).mpr I.lyn
  rw [List.getElem?_take, if_pos hi, List.getElem?_drop]
  exact G_get (by omega)
structure Facs (w : List Nat) (fs : List (List Nat)) (s : Nat) : Prop where
  le : s ≤ w.length
  fl : fs.flatten = w.take s
  ly : ∀ f ∈ fs, Lyn f
  pw : fs.Pairwise fun a b => b ≤ a
  tl : ∀ f ∈ fs, w.drop s ≤ f
theorem facs_nil (w : List Nat) : Facs w [] 0 := ⟨Nat.zero_le _, by simp, fun f h => (List.not_mem_nil h).elim, List.Pairwise.nil, fun f h => (List.not_mem_nil h).elim⟩
structure Emit (w : List Nat) (fs : List (List Nat)) (s0 h o s : Nat) : Prop where
  I : Inner w s0 h o
  en : o = w.length ∨ G w o < G w h
  q : ∃ q, s = s0 + q * (o - h)
  so : s ≤ o
  fl : fs.flatten = w.take s
  ly : ∀ f ∈ fs, Lyn f
  pw : fs.Pairwise fun a b => b ≤ a
  tl : ∀ f ∈ fs, (w.drop s0).take (o - h) ≤ f
theorem emit_start {w : List Nat} {fs : List (List Nat)} {s h o : Nat} (F : Facs w fs s) (I : Inner w s h o) (en : o = w.length ∨ G w o < G w h) : Emit w fs s h o s :=
  ⟨I, en, ⟨0, by simp⟩, by have := I.sh; have := I.ho; omega, F.fl, F.ly, F.pw, fun f hf => List.le_trans (prefix_le (List.take_prefix _ _)) (F.tl f hf)⟩
theorem per_at {w : List Nat} {s0 h o : Nat} (I : Inner w s0 h o) {q k : Nat} (hk : q * (o - h) + k < o - s0) (hk2 : k < o - h) : G w (s0 + q * (o - h) + k) = G w (s0 + k) := by
  have := I.ho
  have pm := per_mod (g := fun i => G w (s0 + i)) (p := o - h) (n := o - s0) (by omega) I.per (q * (o - h) + k) hk
  have e : (q * (o - h) + k) % (o - h) = k := by rw [Nat.mul_comm, Nat.mul_add_mod, Nat.mod_eq_of_lt hk2]
  rw [e] at pm
  rw [Nat.add_assoc]
  exact pm
theorem emit_step {w : List Nat} {fs : List (List Nat)} {s0 h o s : Nat} (E : Emit w fs s0 h o s) (hs : s ≤ h) : Emit w (fs ++ [(w.drop s).take (o - h)]) s0 h o (s + (o - h)) := by
  obtain ⟨q, hq⟩ := E.q
  have h1 := E.I.ho
  have h2 := E.I.on
  have h3 := E.I.sh
  have e : (w.drop s).take (o - h) = (w.drop s0).take (o - h) := by
    refine ext_lt (by rw [List.length_take, List.length_take, List.length_drop, List.length_drop]; omega) fun j hj => ?_
    rw [List.length_take, List.length_drop] at hj
    rw [List.getElem?_take, List.getElem?_take, if_pos (by omega), if_pos (by omega), List.getElem?_drop, List.getElem?_drop, G_get (by omega), G_get (by omega)]
    have := per_at E.I (q := q) (k := j) (by omega) (by omega)
    rw [← hq] at this
    rw [this]
  refine ⟨E.I, E.en, ⟨q + 1, by rw [Nat.succ_mul, ← Nat.add_assoc, ← hq]⟩, by omega, ?_, ?_, ?_, ?_⟩
  · rw [List.flatten_append, E.fl, List.flatten_cons, List.flatten_nil, List.append_nil, List.take_add]
  · intro f hf
    rcases List.mem_append.mp hf with hf | hf
    · exact E.ly f hf
    · rw [List.mem_singleton.mp hf, e]
      exact inner_lyn E.I
  · rw [List.pairwise_append]
    refine ⟨E.pw, List.pairwise_singleton _ _, fun a ha b hb => ?_⟩
    rw [List.mem_singleton.mp hb, e]
    exact E.tl a ha
  · intro f hf
    rcases List.mem_append.mp hf with hf | hf
    · exact E.tl f hf
    · rw [List.mem_singleton.mp hf, e]
      exact List.le_refl _
theorem emit_end {w : List Nat} {fs : List (List Nat)} {s0 h o s : Nat} (E : Emit w fs s0 h o s) (hs : h < s) : Facs w fs s ∧ s0 < s := by
  obtain ⟨q, hq⟩ := E.q
  have h1 := E.I.ho
  have h2 := E.I.on
  have h3 := E.I.sh
  have h4 := E.so
  have hq1 : 1 ≤ q := by
    rcases Nat.eq_zero_or_pos q with rfl | c
    · omega
    · exact c
  obtain ⟨r, rfl⟩ : ∃ r, q = r + 1 := ⟨q - 1, by omega⟩
  have hq' : s = s0 + r * (o - h) + (o - h) := by rw [hq, Nat.succ_mul, Nat.add_assoc]
  refine ⟨⟨by omega, E.fl, E.ly, E.pw, fun f hf => List.le_trans ?_ (E.tl f hf)⟩, by omega⟩
  have agree : ∀ k, s + k < o → (w.drop s)[k]? = ((w.drop s0).take (o - h))[k]? := fun k hk => by
    have := per_at E.I (q := r + 1) (k := k) (by rw [Nat.succ_mul]; omega) (by omega)
    rw [← hq] at this
    rw [List.getElem?_take, if_pos (by omega), List.getElem?_drop, List.getElem?_drop, G_get (by omega), G_get (by omega), this]
  rcases E.en with e | e
  · refine prefix_le ?_
    refine pre_of (by rw [List.length_take, List.length_drop, List.length_drop]; omega) fun j hj => ?_
    rw [List.length_drop] at hj
    exact agree j (by omega)
  · by_cases c : o = w.length
    · refine prefix_le ?_
      refine pre_of (by rw [List.length_take, List.length_drop, List.length_drop]; omega) fun j hj => ?_
      rw [List.length_drop] at hj
      exact agree j (by omega)
    · refine le_of_lt (mis_lt' ⟨o - s, G w o, G w h, ?_, ?_, fun j hj => agree j (by omega), e⟩)
      · rw [List.getElem?_drop, show s + (o - s) = o by omega]
        exact G_get (by omega)
      · have := per_at E.I (q := r) (k := o - s) (by omega) (by omega)
        rw [show s0 + r * (o - h) + (o - s) = h by omega] at this
        rw [List.getElem?_take, if_pos (by omega), List.getElem?_drop, G_get (by omega), this]
end M03

set_option autoImplicit false
set_option linter.all false
namespace M03
open M00 M01
/-- the block where the place m-1 lies -/
theorem block_at : ∀ (fs : List (List Nat)) (m : Nat), 0 < m → m ≤ fs.flatten.length → ∃ i, i < m ∧ ∃ g ∈ fs, (fs.flatten.take m).drop i <+: g
  | [], m, h0, h => by simp at h; omega
  | f :: fs, m, h0, h => by
    rw [List.flatten_cons]
    by_cases c : m ≤ f.length
    · refine ⟨0, h0, f, List.mem_cons_self, ?_⟩
      rw [List.take_append_of_le_length c, List.drop_zero]
      exact List.take_prefix _ _
    · rw [List.flatten_cons, List.length_append] at h
      obtain ⟨i, hi, g, hg, hp⟩ := block_at fs (m - f.length) (by omega) (by omega)
      refine ⟨f.length + i, by omega, g, List.mem_cons_of_mem _ hg, ?_⟩
      rw [List.take_append, List.take_of_length_le (by omega), List.drop_append, List.drop_of_length_le (by omega), List.nil_append, show f.length + i - f.length = i by omega]
      exact hp
structure Fac (w : List Nat) (fs : List (List Nat)) : Prop where
  fl : fs.flatten = w
  ly : ∀ f ∈ fs, Lyn f
  pw : fs.Pairwise fun a b => b ≤ a
theorem facs_end {w : List Nat} {fs : List (List Nat)} {s : Nat} (F : Facs w fs s) (h : w.length ≤ s) : Fac w fs := ⟨by rw [F.fl, List.take_of_length_le h], F.ly, F.pw⟩
theorem Fac.tail {w f : List Nat} {fs : List (List Nat)} (F : Fac w (f :: fs)) : Fac fs.flatten fs := ⟨rfl, fun g hg => F.ly g (List.mem_cons_of_mem _ hg), (List.pairwise_cons.mp F.pw).2⟩
theorem Fac.ge {w f : List Nat} {fs : List (List Nat)} (F : Fac w (f :: fs)) : ∀ g ∈ f :: fs, g ≤ f := fun g hg => by
  rcases List.mem_cons.mp hg with rfl | hg
  · exact List.le_refl _
  · exact (List.pairwise_cons.mp F.pw).1 g hg
/-- the first factor is the longest beginning that is a Lyndon word -/
theorem Fac.longest {w f : List Nat} {fs : List (List Nat)} (F : Fac w (f :: fs)) {m : Nat} (hm : m ≤ w.length) (hl : Lyn (w.take m)) : m ≤ f.length := by
  rcases Nat.lt_or_ge f.length m with c | c
  · exfalso
    have hw := F.fl
    rw [List.flatten_cons] at hw
    have hlen : w.length = f.length + fs.flatten.length := by rw [← hw, List.length_append]
    obtain ⟨i, hi, g, hg, hp⟩ := block_at fs (m - f.length) (by omega) (by omega)
    have e : (w.take m).drop (f.length + i) = (fs.flatten.take (m - f.length)).drop i := by
      rw [← hw, List.take_append, List.take_of_length_le (by omega), List.drop_append, List.drop_of_length_le (by omega), List.nil_append, show f.length + i - f.length = i by omega]
    have h1 := hl.2 (f.length + i) (by rw [List.length_take]; omega) (by
      have := (F.ly f List.mem_cons_self).1
      have := List.length_pos_iff.mpr this
      omega)
    rw [e] at h1
    have h2 : g ≤ f := F.ge g (List.mem_cons_of_mem _ hg)
    have h3 : f ≤ w.take m := by
      refine prefix_le ?_
      rw [← hw, List.take_append, List.take_of_length_le (by omega)]
      exact List.prefix_append _ _
    exact List.lt_irrefl _ (lt_le_trans h1 (List.le_trans (prefix_le hp) (List.le_trans h2 h3)))
  · exact c
theorem Fac.first {w f : List Nat} {fs : List (List Nat)} (F : Fac w (f :: fs)) : w.take f.length = f := by
  rw [← F.fl, List.flatten_cons, List.take_append_of_le_length (Nat.le_refl _), List.take_length]
theorem Fac.first_lyn {w f : List Nat} {fs : List (List Nat)} (F : Fac w (f :: fs)) : Lyn (w.take f.length) := by rw [F.first]; exact F.ly f List.mem_cons_self
theorem Lyn.le_drop {x : List Nat} (h : Lyn x) {i : Nat} (hi : i < x.length) : x ≤ x.drop i := by
  rcases Nat.eq_zero_or_pos i with rfl | c
  · rw [List.drop_zero]; exact List.le_refl _
  · exact le_of_lt (h.2 i hi c)
/-- no ending is less than the last factor -/
theorem Fac.least : ∀ {fs : List (List Nat)} {w z : List Nat}, Fac w fs → fs.getLast? = some z → ∀ j, j < w.length → z ≤ w.drop j
  | [], _, _, _, h, _, _ => by cases h
  | f :: fs, w, z, F, h, j, hj => by
    have hw := F.fl
    rw [List.flatten_cons] at hw
    have hz : z ∈ f :: fs := List.mem_of_getLast? h
    by_cases c : j < f.length
    · refine List.le_trans (F.ge z hz) (List.le_trans ((F.ly f List.mem_cons_self).le_drop c) (prefix_le ?_))
      rw [← hw, List.drop_append_of_le_length (by omega)]
      exact List.prefix_append _ _
    · have hl : w.length = f.length + fs.flatten.length := by rw [← hw, List.length_append]
      have e : w.drop j = fs.flatten.drop (j - f.length) := by
        rw [← hw, List.drop_append, List.drop_of_length_le (by omega), List.nil_append]
      rw [e]
      cases fs with
      | nil => simp at hl; omega
      | cons g gs =>
        refine Fac.least F.tail (z := z) ?_ _ (by omega)
        rw [List.getLast?_cons_cons] at h
        exact h
theorem Fac.last_drop : ∀ {fs : List (List Nat)} {w z : List Nat}, Fac w fs → fs.getLast? = some z → w.drop (w.length - z.length) = z ∧ 0 < z.length ∧ z.length ≤ w.length
  | fs, w, z, F, h => by
    obtain ⟨ys, rfl⟩ := List.getLast?_eq_some_iff.mp h
    have hw := F.fl
    rw [List.flatten_append, List.flatten_cons, List.flatten_nil, List.append_nil] at hw
    have hz := (F.ly z (by simp)).1
    have := List.length_pos_iff.mpr hz
    rw [← hw, List.length_append]
    refine ⟨?_, this, by omega⟩
    rw [show ys.flatten.length + z.length - z.length = ys.flatten.length by omega, List.drop_left]
/-- of a least turn all factors are alike -/
theorem Fac.alike {L f : List Nat} {fs : List (List Nat)} (F : Fac L (f :: fs)) (hL : ∀ i, i < L.length → L ≤ rot L i) : ∀ g ∈ f :: fs, g = f := by
  obtain ⟨z, hz⟩ : ∃ z, (f :: fs).getLast? = some z := ⟨_, List.getLast?_eq_some_getLast (by simp)⟩
  have hzf : z = f := by
    have hle := F.ge z (List.mem_of_getLast? hz)
    by_cases h : z = f
    · exact h
    have h : z < f := (List.le_iff_lt_or_eq.mp hle).resolve_right h
    exfalso
    obtain ⟨ys, hys⟩ := List.getLast?_eq_some_iff.mp hz
    cases ys with
    | nil =>
      rw [List.nil_append] at hys
      cases hys
      exact List.lt_irrefl _ h
    | cons y ys =>
      rw [List.cons_append] at hys
      cases hys
      have hw := F.fl
      have hw2 : L = (f ++ ys.flatten) ++ z := by rw [← hw]; simp
      have hw3 : L = f ++ (ys.flatten ++ z) := by rw [hw2, List.append_assoc]
      have hzl := List.length_pos_iff.mpr (F.ly z (by simp)).1
      have hr := hL (f ++ ys.flatten).length (by have := congrArg List.length hw2; rw [List.length_append] at this; omega)
      have er : rot L (f ++ ys.flatten).length = z ++ (f ++ ys.flatten) := by
        unfold rot
        rw [hw2, List.drop_left, List.take_left]
      rw [er] at hr
      rcases lt_cases h with h | ⟨⟨t, ht⟩, hl⟩
      · exact hr (by rw [hw3]; exact mis_lt h _ _)
      · have htl : t.length = f.length - z.length := by rw [← ht, List.length_append]; omega
        have hfd : f.drop z.length = t := by rw [← ht, List.drop_left]
        have hm : Mis f t := by
          have := (F.ly f (by simp)).2 z.length hl hzl
          rw [hfd] at this
          exact mis_of_len this (by omega)
        apply hr
        rw [hw3]
        conv => rhs; rw [← ht]
        rw [List.append_assoc]
        exact List.append_left_lt (mis_lt hm _ _)
  intro g hg
  refine List.le_antisymm (F.ge g hg) ?_
  rw [← hzf]
  obtain ⟨ys, hys⟩ := List.getLast?_eq_some_iff.mp hz
  rw [hys] at hg
  rcases List.mem_append.mp hg with h | h
  · have := F.pw
    rw [hys, List.pairwise_append] at this
    exact this.2.2 g h z (by simp)
  · rw [List.mem_singleton.mp h]
    exact List.le_refl _
theorem alike_pw {f : List Nat} : ∀ {fs : List (List Nat)}, (∀ g ∈ fs, g = f) → fs = List.replicate fs.length f
  | [], _ => rfl
  | x :: xs, h => by
    rw [List.length_cons, List.replicate_succ, ← alike_pw (fs := xs) fun g hg => h g (List.mem_cons_of_mem _ hg), h x List.mem_cons_self]
theorem sh_of_rot {x : List Nat} {a i : Nat} (ha : a ≤ x.length) (h : Sh (rot x a) i) : Sh x i := by
  intro j
  rcases Nat.eq_zero_or_pos x.length with z | z
  · rw [List.length_eq_zero_iff.mp z]; rfl
  have key : ∀ c, (rot x a)[c % x.length]? = x[(a + c) % x.length]? := fun c => by
    rw [rot_get ha (Nat.mod_lt _ z), Nat.add_mod_mod]
  have h' := h (j + (x.length - a))
  rw [rot_len, key, key] at h'
  rw [show a + (j + (x.length - a) + i) = j + i + x.length by omega, show a + (j + (x.length - a)) = j + x.length by omega, Nat.add_mod_right, Nat.add_mod_right] at h'
  exact h'
theorem pw_drop (f : List Nat) (k : Nat) : (pw f (k + 1)).drop f.length = pw f k := by rw [pw_succ, List.drop_left]
theorem pw_take (f : List Nat) (k : Nat) : (pw f (k + 1)).take f.length = f := by rw [pw_succ, List.take_left]
theorem pw_pre (f : List Nat) (k : Nat) : pw f k <+: pw f (k + 1) := by
  rw [← pw_add f k 1]
  exact List.prefix_append _ _
/-- the factors of the least turn: as the root has letters -/
theorem Fac.root {w L : List Nat} {fs : List (List Nat)} {s a : Nat} (P : Per w s) (ha : a < w.length) (hLr : L = rot w a) (F : Fac L fs) (hL : ∀ i, i < L.length → L ≤ rot L i) : fs = List.replicate (w.length / s) (L.take s) := by
  have hn : 0 < w.length := by omega
  have hLl : L.length = w.length := by rw [hLr, rot_len]
  cases fs with
  | nil =>
    have := F.fl
    rw [List.flatten_nil] at this
    rw [← this] at hLl
    simp at hLl; omega
  | cons f fs =>
    have hall := alike_pw (F.alike hL)
    have hf := F.ly f List.mem_cons_self
    have hfl := List.length_pos_iff.mpr hf.1
    have hLp : L = M01.pw f (fs.length + 1) := by
      rw [← F.fl, hall]; simp [M01.pw]
    have hfn : L.length = (fs.length + 1) * f.length := by rw [hLp, pw_len]
    have hft : L.take f.length = f := F.first
    have hfle : f.length ≤ L.length := by rw [hfn]; exact Nat.le_mul_of_pos_left _ (by omega)
    have hdiv : L.length / f.length = fs.length + 1 := by rw [hfn, Nat.mul_div_cancel _ hfl]
    have hsh : Sh L f.length := (sh_pw hfl hfle (by rw [hfn, Nat.mul_mod_left])).mp (by rw [hft, hdiv]; exact hLp.symm)
    have h1 : s ≤ f.length := P.min _ hfl (sh_of_rot (x := w) (a := a) (by omega) (by rw [← hLr]; exact hsh))
    have hs1 := P.pos
    have hLpw : L = M01.pw (rot (w.take s) (a % s)) (w.length / s) := by rw [hLr]; exact rot_pw (i := a) P (by omega)
    have hrl : (rot (w.take s) (a % s)).length = s := by rw [rot_len, P.tl]
    have h2 : f.length ≤ s := by
      rcases Nat.lt_or_ge s f.length with c | c
      · exfalso
        have hx := hf.2 s c hs1
        have hk : 0 < w.length / s := Nat.div_pos P.le hs1
        obtain ⟨k, hk⟩ : ∃ k, w.length / s = k + 1 := ⟨w.length / s - 1, by omega⟩
        rw [hk] at hLpw
        have hd : L.drop s <+: L := by
          have e := pw_drop (rot (w.take s) (a % s)) k
          rw [hrl, ← hLpw] at e
          rw [e, hLpw]
          exact pw_pre _ _
        have : f.drop s <+: f := by
          rw [← hft]
          refine pre_of (by rw [List.length_drop]; omega) fun j hj => ?_
          rw [List.length_drop, List.length_take] at hj
          obtain ⟨t, ht⟩ := hd
          rw [List.getElem?_drop, List.getElem?_take, if_pos (by omega), List.getElem?_take, if_pos (by omega), ← List.getElem?_drop]
          conv => rhs; rw [← ht]
          rw [List.getElem?_append_left (by rw [List.length_drop]; omega)]
        exact prefix_le this hx
      · exact c
    have hfs : f.length = s := Nat.le_antisymm h2 h1
    rw [hall, List.length_cons]
    congr 1
    · rw [← hdiv, hLl, hfs]
    · rw [← hfs, hft]
end M03

set_option autoImplicit false
set_option linter.all false
namespace M03
open M00 M01
/-- the word read round -/
def C (w : List Nat) (a : Nat) : Nat := G w (a % w.length)
theorem rot_C {w : List Nat} {a j : Nat} (hn : 0 < w.length) (ha : a ≤ w.length) (hj : j < w.length) : (rot w a)[j]? = some (C w (a + j)) := by
  rw [rot_get ha hj, G_get (Nat.mod_lt _ hn)]
  rfl
theorem dd_C {w : List Nat} {a : Nat} (ha : a < w.length + w.length) : (w ++ w)[a]? = some (C w a) := by
  unfold C
  by_cases c : a < w.length
  · rw [List.getElem?_append_left c, Nat.mod_eq_of_lt c, G_get c]
  · rw [List.getElem?_append_right (by omega), G_get (by omega), Nat.mod_eq_sub_mod (by omega), Nat.mod_eq_of_lt (by omega)]
theorem C_mod (w : List Nat) (a b : Nat) : C w (a % w.length + b) = C w (a + b) := by unfold C; rw [Nat.mod_add_mod]
theorem rot_lt {w : List Nat} {a b k : Nat} (hn : 0 < w.length) (ha : a ≤ w.length) (hb : b ≤ w.length) (hk : k < w.length) (he : ∀ e, e < k → C w (a + e) = C w (b + e)) (h : C w (a + k) < C w (b + k)) : rot w a < rot w b :=
  mis_lt' ⟨k, _, _, rot_C hn ha hk, rot_C hn hb hk, fun j hj => by rw [rot_C hn ha (by omega), rot_C hn hb (by omega), he j hj], h⟩
structure LC (w : List Nat) (i j k : Nat) : Prop where
  ne : i ≠ j
  eq : ∀ d, d < k → C w (i + d) = C w (j + d)
  no : ∀ t, t < w.length → t ≠ i → t ≠ j → t < i ∨ t < j → ∃ u, u < w.length ∧ rot w u < rot w t
  lt : i < w.length ∨ j < w.length
  kn : k ≤ w.length
theorem lc_start {w : List Nat} (hn : 0 < w.length) : LC w 0 1 0 := ⟨by omega, fun d hd => by omega, fun t ht h1 h2 h3 => by omega, .inl hn, Nat.zero_le _⟩
theorem lc_eq {w : List Nat} {i j k : Nat} (L : LC w i j k) (hk : k < w.length) (h : C w (i + k) = C w (j + k)) : LC w i j (k + 1) :=
  ⟨L.ne, fun d hd => by
    by_cases c : d < k
    · exact L.eq d c
    · rw [show d = k by omega]; exact h, L.no, L.lt, hk⟩
theorem LC.comm {w : List Nat} {i j k : Nat} (L : LC w i j k) : LC w j i k := ⟨L.ne.symm, fun d hd => (L.eq d hd).symm, fun t ht h1 h2 h3 => L.no t ht h2 h1 h3.symm, L.lt.symm, L.kn⟩
theorem lc_out {w : List Nat} {i j k : Nat} (L : LC w i j k) (hi : i < w.length) (hj : j < w.length) (hk : k < w.length) (h : C w (j + k) < C w (i + k)) : ∀ t, t < w.length → i ≤ t → t ≤ i + k → ∃ u, u < w.length ∧ rot w u < rot w t := by
  intro t ht h1 h2
  have hn : 0 < w.length := by omega
  refine ⟨(j + (t - i)) % w.length, Nat.mod_lt _ hn, rot_lt (k := k - (t - i)) hn (Nat.le_of_lt (Nat.mod_lt _ hn)) (by omega) (by omega) (fun e he => ?_) ?_⟩
  · rw [C_mod, show j + (t - i) + e = j + (t - i + e) by omega, show t + e = i + (t - i + e) by omega]
    exact (L.eq _ (by omega)).symm
  · rw [C_mod, show j + (t - i) + (k - (t - i)) = j + k by omega, show t + (k - (t - i)) = i + k by omega]
    exact h
/-- the first one jumps -/
theorem lc_gt {w : List Nat} {i j k : Nat} (L : LC w i j k) (hi : i < w.length) (hj : j < w.length) (hk : k < w.length) (h : C w (j + k) < C w (i + k)) : (i + k + 1 ≠ j → LC w (i + k + 1) j 0) ∧ (i + k + 1 = j → LC w (i + k + 1) (j + 1) 0) := by
  have out := lc_out L hi hj hk h
  constructor
  · intro hne
    refine ⟨hne, fun d hd => by omega, fun t ht h1 h2 h3 => ?_, .inr hj, Nat.zero_le _⟩
    by_cases c : i ≤ t ∧ t ≤ i + k
    · exact out t ht c.1 c.2
    · exact L.no t ht (by omega) h2 (by omega)
  · intro he
    refine ⟨by omega, fun d hd => by omega, fun t ht h1 h2 h3 => ?_, .inl (by omega), Nat.zero_le _⟩
    by_cases c : i ≤ t ∧ t ≤ i + k
    · exact out t ht c.1 c.2
    · exact L.no t ht (by omega) (by omega) (by omega)
/-- the second one jumps -/
theorem lc_lt {w : List Nat} {i j k : Nat} (L : LC w i j k) (hi : i < w.length) (hj : j < w.length) (hk : k < w.length) (h : C w (i + k) < C w (j + k)) : (j + k + 1 ≠ i → LC w i (j + k + 1) 0) ∧ (j + k + 1 = i → LC w i (j + k + 2) 0) := by
  have := lc_gt L.comm hj hi hk h
  refine ⟨fun e => (this.1 e).comm, fun e => ?_⟩
  have q := (this.2 e).comm
  have out := lc_out L.comm hj hi hk h
  refine ⟨by omega, fun d hd => by omega, fun t ht h1 h2 h3 => ?_, .inl hi, Nat.zero_le _⟩
  by_cases c : j ≤ t ∧ t ≤ j + k
  · exact out t ht c.1 c.2
  · exact L.no t ht h1 (by omega) (by omega)
theorem first_min (f : Nat → List Nat) : ∀ n, 0 < n → ∃ m, m < n ∧ (∀ t, t < n → f m ≤ f t) ∧ ∀ t, t < m → f m < f t
  | 0, h => by omega
  | 1, _ => ⟨0, by omega, fun t ht => by rw [show t = 0 by omega]; exact List.le_refl _, fun t ht => by omega⟩
  | n + 2, _ => by
    obtain ⟨m, h1, h2, h3⟩ := first_min f (n + 1) (by omega)
    by_cases c : f (n + 1) < f m
    · refine ⟨n + 1, by omega, fun t ht => ?_, fun t ht => lt_le_trans c (h2 t ht)⟩
      by_cases d : t = n + 1
      · rw [d]; exact List.le_refl _
      · exact le_of_lt (lt_le_trans c (h2 t (by omega)))
    · refine ⟨m, by omega, fun t ht => ?_, h3⟩
      by_cases d : t = n + 1
      · rw [d]; exact c
      · exact h2 t (by omega)
theorem lc_end {w : List Nat} {i j k : Nat} (L : LC w i j k) (hk : w.length ≤ i ∨ w.length ≤ j ∨ w.length ≤ k) : min i j < w.length ∧ ∀ t, t < w.length → rot w (min i j) ≤ rot w t := by
  have hlt := L.lt
  have hne := L.ne
  have hn : 0 < w.length := by omega
  refine ⟨by omega, ?_⟩
  obtain ⟨m, h1, h2, h3⟩ := first_min (rot w) w.length hn
  have hm : ¬ ∃ u, u < w.length ∧ rot w u < rot w m := fun ⟨u, hu, hl⟩ => h2 u hu hl
  by_cases c : m = min i j
  · rw [← c]; exact h2
  by_cases d : w.length ≤ i ∨ w.length ≤ j
  · exact absurd (L.no m h1 (by omega) (by omega) (by omega)) hm
  have kn := L.kn
  have ke : k = w.length := by omega
  have sh : ∀ a, C w (i + a) = C w (j + a) := fun a => by
    have := L.eq (a % w.length) (by rw [ke]; exact Nat.mod_lt _ hn)
    unfold C at this ⊢
    rwa [Nat.add_mod_mod, Nat.add_mod_mod] at this
  have rij : rot w i = rot w j := by
    refine ext_lt (by rw [rot_len, rot_len]) fun a ha => ?_
    rw [rot_len] at ha
    rw [rot_C hn (by omega) ha, rot_C hn (by omega) ha, sh]
  by_cases e : m = i ∨ m = j
  · have : rot w (min i j) = rot w m := by
      rcases Nat.le_total i j with q | q
      · rw [Nat.min_eq_left q]
        rcases e with rfl | rfl
        · rfl
        · exact rij
      · rw [Nat.min_eq_right q]
        rcases e with rfl | rfl
        · exact rij.symm
        · rfl
    rw [this]
    exact h2
  · exfalso
    have hgt : i < m ∧ j < m := by
      refine ⟨?_, ?_⟩
      · rcases Nat.lt_or_ge i m with q | q
        · exact q
        · exact absurd (L.no m h1 (by omega) (by omega) (by omega)) hm
      · rcases Nat.lt_or_ge j m with q | q
        · exact q
        · exact absurd (L.no m h1 (by omega) (by omega) (by omega)) hm
    have key : ∀ p q : Nat, p < q → q < m → (∀ a, C w (p + a) = C w (q + a)) → False := fun p q hpq hqm hh => by
      have : rot w (m - (q - p)) = rot w m := by
        refine ext_lt (by rw [rot_len, rot_len]) fun a ha => ?_
        rw [rot_len] at ha
        rw [rot_C hn (by omega) ha, rot_C hn (by omega) ha]
        have := hh (m - q + a)
        rw [show p + (m - q + a) = m - (q - p) + a by omega, show q + (m - q + a) = m + a by omega] at this
        rw [this]
      have := h3 (m - (q - p)) (by omega)
      rw [‹rot w (m - (q - p)) = rot w m›] at this
      exact List.lt_irrefl _ this
    rcases Nat.lt_or_ge i j with q | q
    · exact key i j q hgt.2 sh
    · exact key j i (by omega) hgt.1 fun a => (sh a).symm
/-- the sizes whose powers are the word -/
theorem size_no {w : List Nat} {s j : Nat} (P : Per w s) (h1 : 1 ≤ j) (h2 : j < s) : pw (w.take j) (w.length / j) ≠ w := by
  intro h
  have hl := congrArg List.length h
  have := P.le
  rw [pw_len, List.length_take, Nat.min_eq_left (by omega)] at hl
  have hd : w.length % j = 0 := by
    have := Nat.div_add_mod w.length j
    rw [Nat.mul_comm] at this
    omega
  have := P.min j h1 ((sh_pw h1 (by omega) hd).mp h)
  omega
theorem size_ok {w : List Nat} {s : Nat} (P : Per w s) : pw (w.take s) (w.length / s) = w := P.pw
end M03

set_option Elab.async false
set_option linter.all false
set_option maxRecDepth 100000
set_option maxHeartbeats 4000000
set_option autoImplicit false
/-! DL6: gcd, list(range(n)), xs.index(i) -/
namespace DL
open PySem PySem.Spec PyProof.Rows L2
section
variable {B : Bs} {env : List Sl} {P : Dt → Prop} {PL : List Dt → Prop} {m : Bool} {ta tb : TE} {K : PySem.W.Frag}
theorem ev_gcd (h : Ev B false ta env fun x => Ev B false tb env fun y => ∃ i j : Int, x = .int i ∧ y = .int j ∧ P (.int ((Nat.gcd i.natAbs j.natAbs : Nat) : Int))) : Ev B m (tCB rGcd (tCons ta (tCons tb tNil))) env P := fun F H σ E Q q =>
  h F H σ E _ fun d v F1 H1 h1 E1 g1 r1 => h1 F1 H1 σ E1 _ fun d2 v2 F2 H2 h2 E2 g2 r2 => by
    obtain ⟨i, j, rfl, rfl, hp⟩ := h2
    exact ⟨i, j, by rw [Rp.int_iff.mp r1, Rp.int_iff.mp r2], q _ _ F2 H2 hp E2 (g1.trans g2) (Rp.int_iff.mpr rfl)⟩
theorem el_listRg1 (h : Ev B false ta env fun x => ∃ n : Nat, x = .int n ∧ n ≤ 1000000 ∧ PL ((List.range n).map fun i : Nat => .int i)) : El B (tLstRg (tRg1 ta)) env PL := fun F H σ E Q q => h F H σ E _ fun d v F1 H1 h1 E1 g1 r1 => by
  obtain ⟨n, rfl, hn, hp⟩ := h1
  refine ⟨n, Rp.int_iff.mp r1, RgOk.of_le (by omega) (by omega) (by omega) (by omega), fun p hl => ?_⟩
  have e : rgV 0 (n : Int) = (List.range n).map fun i : Nat => V.int i := by
    unfold rgV
    rw [show ((n : Int) - 0).toNat = n by omega]
    apply List.map_congr_left
    intro i _
    rw [Int.zero_add]
  rw [e]
  refine q _ _ p F1 _ hp (E1.allocH _ hl) (g1.trans (Gr.allocH hl)) (g1.h.back hl) (E1.fh.back hl) upd_same ?_
  have := RpAll.ints (H := F1) ((List.range n).map fun i : Nat => (i : Int))
  rw [List.map_map, List.map_map] at this
  exact this
theorem eqV_int (i j : Int) : eqV (.int i) (.int j) = decide (i = j) := by
  unfold eqV
  first | rfl | (rw [Bool.eq_iff_iff]; simp)
theorem ev_index (h : Es B ta env fun xs => Ev B false tb env fun y => ∃ (ns : List Int) (i : Int) (j : Nat), xs = ns.map .int ∧ y = .int i ∧ ns[j]? = some i ∧ (∀ k, k < j → ns[k]? ≠ some i) ∧ P (.int j)) : Ev B m (tBM K "list" (rIndex K) ta (tCons tb tNil)) env P := fun F H σ E Q q =>
  h F H σ E _ fun xs vs a F1 H1 h1 E1 g1 ha r1 => by
    refine ⟨.inl ⟨rfl, vs, SqL.of ha⟩, h1 F1 H1 σ E1 _ fun y w F2 H2 h2 E2 g2 r2 => ?_⟩
    obtain ⟨ns, i, j, rfl, rfl, hj, hk, hp⟩ := h2
    rw [RpAll.ints_iff.mp r1] at ha
    rw [Rp.int_iff.mp r2]
    refine ⟨a, ns.map V.int, .int i, j, .int i, rfl, rfl, SqL.of (g2.h _ _ ha), rfl, ?_, by rw [List.getElem?_map, hj]; rfl, by rw [eqV_int]; simp, fun k z hkj hz => ?_, q _ _ F2 H2 hp E2 (g1.trans g2) (Rp.int_iff.mpr rfl)⟩
    · rw [List.all_eq_true]
      intro x hx
      obtain ⟨n, _, rfl⟩ := List.mem_map.mp hx
      rfl
    · rw [List.getElem?_map] at hz
      cases e : ns[k]? with
      | none => rw [e] at hz; cases hz
      | some n =>
        rw [e] at hz
        cases hz
        rw [eqV_int]
        exact decide_eq_false fun z => hk k hkj (by rw [e, z])
/-- a whole number that the top has named -/
theorem pe_gint {X : Cx} {x : Str} {v : Int} {pos : Pos} (hg : Gl X x) (h : ∃ t, X.mg x = some (.int v t)) (hd : (x == ("__debug__" : Str)) = false := by decide) : PE X (.Name x pos) (tC (.int v)) := by
  obtain ⟨t, h⟩ := h
  exact pe_glob hg h ⟨t, rfl⟩ hd
end
end DL

set_option Elab.async false
set_option linter.all false
set_option maxRecDepth 100000
set_option maxHeartbeats 4000000
set_option autoImplicit false
/-! DL7: x, y = (a, b) where x, y are cells -/
namespace L2
open PySem PySem.Spec PyProof.Rows
variable {X : Cx}
theorem ps_par_none {i j : Nat} {x y : Str} {a b : Expr} {ta : TA} {px py pt pos : Pos} {kt k2 pt2} (hc : X.calm = true) (hN : X.N.Nodup) (hi : X.N[i]? = some x) (hj : X.N[j]? = some y) (hij : i ≠ j)
    (hx : Loc X.env.scope x) (hy : Loc X.env.scope y) (ha : PA X [a, b] ta)
    (hw : swappedStores [.Tuple [.Name x px, .Name y py] kt pt] (.Tuple [a, b] k2 pt2) X.env = pure none)
    (hs : swapsWithSole [.Tuple [.Name x px, .Name y py] kt pt] (.Tuple [a, b] k2 pt2) pos.line X.env = pure false := by rfl)
    (hfx : X.fn x = true ∨ X.env.scope.names.lookup x = some .local := by first | exact .inl rfl | exact .inr rfl)
    (hfy : X.fn y = true ∨ X.env.scope.names.lookup y = some .local := by first | exact .inl rfl | exact .inr rfl) :
    PS X (.Assign [.Tuple [.Name x px, .Name y py] kt pt] (.Tuple [a, b] k2 pt2) pos) (tPar i j ta) := by
  refine ⟨fun pins s σ H D I h => ?_⟩
  rw [exec_Assign_arm]
  refine wpAny_bind (wpAny_standAt ?_)
  rw [hs]
  refine wpAny_bind (wpAny_pure ?_)
  rw [if_neg (by decide)]
  refine wpAny_bind (Tuple_ (thn (ha.run _ pins s σ H _ I h) fun us s1 ⟨vs, H1, I1, r1, q1⟩ => ?_))
  obtain ⟨v, w, e1, q1⟩ := q1
  subst e1
  obtain ⟨u1, u2, rfl, rv, rw'⟩ : ∃ u1 u2, us = [u1, u2] ∧ RelV v u1 ∧ RelV w u2 := by
    cases r1 with
    | cons p q =>
      cases q with
      | cons p' q' =>
        cases q'
        exact ⟨_, _, rfl, p, p'⟩
  refine wpAny_newObj_type ?_ (by show 2 ≤ sizeLine; decide)
  have I2 : Inv X pins σ H1 { s1 with heap := s1.heap.push { cls := .type "tuple", data := .seq [u1, u2].toArray } } := I1.kept (t' := s1.toks) fun b o e => Heap.get?_push_of_some _ e
  rw [hw]
  refine wpAny_bind (wpAny_pure ?_)
  show wpAny (model X.prog X.w) X.A (do assignAll (.ref s1.heap.objs.size) [assign (.Tuple [.Name x px, .Name y py] kt pt) X.env]; pure Flow.next) _ _ _
  refine wpAny_bind (assign_Tuple_tuple (items := #[u1, u2]) (I.ok.hd hc) (IsTup.new s1.heap _) rfl rfl fun h' hx' => ?_)
  have I3 := I2.kept (h' := h') (t' := s1.toks) fun b o e => hx' b o (Nat.ne_of_lt (Heap.lt_size e)) e
  show wpAny _ _ (assignInOrder [assign (.Name x px) X.env, assign (.Name y py) X.env] [u1, u2]) _ _ _
  refine assignInOrder_cons (wpAny_assign_Name (store_ok I3 hN hi hx rv (fun s2 I4 => ?_) hfx))
  refine assignInOrder_cons (wpAny_assign_Name (store_ok I4 hN hj hy rw' (fun s3 I5 => assignInOrder_nil (wpAny_pure ?_)) hfy))
  exact ⟨_, H1, I5, q1⟩
end L2

set_option Elab.async false
set_option linter.all false
set_option maxRecDepth 100000
set_option maxHeartbeats 4000000
set_option autoImplicit false
/-! DL8: min, max of a list of texts; str of a text -/
namespace DL
open PySem PySem.Spec PyProof.Rows L2
def sOf : Value → Str
  | .str x _ => x
  | _ => ⟨#[]⟩
def stAt (its : List Value) (i : Nat) : Str := (its[i]?.map sOf).getD ⟨#[]⟩
theorem stAt_of : ∀ {its : List Value} {xs : List Str}, StrsAre its xs → ∀ {i : Nat} {v : Value}, its[i]? = some v → (∃ t, v = .str (stAt its i) t) ∧ xs[i]? = some (stAt its i)
  | _, _, .nil, i, v, h => by simp at h
  | _, _, .cons y t r, 0, v, h => by
    simp at h
    subst h
    exact ⟨⟨t, rfl⟩, rfl⟩
  | _, _, .cons y t r, i + 1, v, h => by
    have := stAt_of r (i := i) (v := v) (by simpa using h)
    simpa [stAt] using this
theorem strs_len : ∀ {its : List Value} {xs : List Str}, StrsAre its xs → its.length = xs.length
  | _, _, .nil => rfl
  | _, _, .cons y t r => by rw [List.length_cons, List.length_cons, strs_len r]
theorem cmp_strs {prog : Program} {w : World} {A : Around} {P : Nat → Value → Prop} (val : Nat → Str) (hval : ∀ i v, P i v → ∃ t, v = .str (val i) t) :
    CmpOf prog w A .Lt P (fun i j => decide ((val i).cps.toList < (val j).cps.toList)) := fun i j vi vj s Q E hi hj h => by
  obtain ⟨t, rfl⟩ := hval i vi hi
  obtain ⟨u, rfl⟩ := hval j vj hj
  exact richCompare_gives (op := .Lt) (typeIs_str s _ t) (typeIs_str s _ u) F.slot_str_lt F.entry_str_lt (F.args_str_lt_2 _ _) (gives_str_lt _ _ t u) (fun x => nomatch x) h
theorem argBest_ltS (num : Nat → List Nat) : ∀ k, argBest (fun i j => decide (num i < num j)) k ≤ k ∧ ∀ j, j ≤ k → ¬ num j < num (argBest (fun i j => decide (num i < num j)) k)
  | 0 => ⟨Nat.le_refl _, fun j hj => by
    have : j = 0 := by omega
    subst this
    exact List.lt_irrefl _⟩
  | k + 1 => by
    obtain ⟨h1, h2⟩ := argBest_ltS num k
    simp only [argBest]
    by_cases hc : num (k + 1) < num (argBest (fun i j => decide (num i < num j)) k)
    · rw [if_pos (by simpa using hc)]
      refine ⟨Nat.le_refl _, fun j hj => ?_⟩
      rcases Nat.lt_or_ge j (k + 1) with hlt | hge
      · intro z
        exact h2 j (by omega) (List.lt_trans z hc)
      · have : j = k + 1 := by omega
        subst this
        exact List.lt_irrefl _
    · rw [if_neg (by simpa using hc)]
      refine ⟨by omega, fun j hj => ?_⟩
      rcases Nat.lt_or_ge j (k + 1) with hlt | hge
      · exact h2 j (by omega)
      · have : j = k + 1 := by omega
        subst this
        exact hc
section
variable {prog : Program} {w : World} {A : Around} {E : Value → Shared → Prop} {s : Shared} {l : Addr}
theorem iter_listV {items : Array Value} {Q : Value → Shared → Prop} (hl : s.heap.IsList l items)
    (h : ∀ s₂ : Shared, s₂ = { s with heap := s.heap.push { cls := .type "list_iterator", data := .fields #[.ref l, .int 0 0] } } →
      (s₂.heap.IsListIter s.heap.objs.size l 0 ∧ s₂.heap.IsList l items) → (∀ b ∈ [s.heap.objs.size, l], b < s₂.heap.objs.size) → l ≠ s.heap.objs.size → Q (.ref s.heap.objs.size) s₂) :
    wpAny (model prog w) A (pyIter (.ref l)) Q E s := by
  have hlt : l < s.heap.objs.size := by obtain ⟨_, e, _⟩ := hl; exact Heap.lt_size e
  refine wpAny_pyIter_list hl (h _ rfl ⟨⟨_, Heap.get?_push_size _ rfl, rfl, rfl⟩, hl.push _⟩ (fun b hb => ?_) (Nat.ne_of_lt hlt))
  show b < (s.heap.push _).objs.size
  rw [Heap.size_push]
  rcases List.mem_cons.mp hb with rfl | hb
  · exact Nat.lt_succ_self _
  · rcases List.mem_cons.mp hb with rfl | hb
    · exact Nat.lt_succ_of_lt hlt
    · cases hb
theorem min_strs {its : List Value} {xs : List Str} {Q : Value → Shared → Prop} (hh : A.handled = none) (hl : s.heap.IsList l its.toArray) (hi : StrsAre its xs) (hne : 0 < its.length)
    (h : ∀ h' tk M t', (∀ b o, s.heap.get? b = some o → h'.get? b = some o) → M ∈ xs → (∀ a, a ∈ xs → ¬ a.cps.toList < M.cps.toList) → Q (.str M t') { s with heap := h', toks := tk }) :
    wpAny (model prog w) A (call (.builtin "min") [.ref l]) Q E s := by
  refine call_min_walk (iter_listV hl fun s₂ e st hfp hlI => ?_)
  subst e
  have val : ∀ (i : Nat) (v : Value), its.toArray[i]? = some v → ∃ t, v = Value.str (stAt its i) t := fun i v hv => (stAt_of hi (i := i) (v := v) (by simpa using hv)).1
  refine ⟨_, _, _, _, _, _, _, rfl, Walks.list (A := A.in1) hh _ l hlI its.toArray, st, hfp, by simpa using hne, cmp_strs (stAt its) val, fun v h' tk hP hk => ?_⟩
  obtain ⟨h1, h2⟩ := argBest_ltS (fun i => (stAt its i).cps.toList) (its.length - 1)
  rw [show its.toArray.size = its.length from by simp] at hP
  have hP' : its[argBest (fun i j => decide ((stAt its i).cps.toList < (stAt its j).cps.toList)) (its.length - 1)]? = some v := by simpa using hP
  obtain ⟨⟨t, rfl⟩, e⟩ := stAt_of hi hP'
  refine h h' tk _ t (old_kept hk) (List.mem_of_getElem? e) fun a ha => ?_
  obtain ⟨j, hj, rfl⟩ := List.getElem_of_mem ha
  have hlen : its.length = xs.length := strs_len hi
  obtain ⟨_, e2⟩ := stAt_of hi (List.getElem?_eq_getElem (show j < its.length by omega))
  rw [List.getElem?_eq_getElem hj] at e2
  rw [Option.some.inj e2]
  exact h2 j (by omega)
end
section
variable {X : Cx}
def rMinS (K : PySem.W.Frag) : List V → Hp → VK → Prop := fun vs H Q => ∃ (a : Addr) (xs : List Str), vs = [V.ref a] ∧ SqL K H a (xs.map V.str) ∧ 0 < xs.length ∧ ∀ m, m ∈ xs → (∀ y, y ∈ xs → ¬ y.cps.toList < m.cps.toList) → Q (.str m) H
theorem cr_minS (hc : X.calm = true) : CallR X (.builtin "min") (rMinS X.K) := by
  intro pins s σ H vs us Q I r h
  obtain ⟨a, xs, rfl, hs, hne, q⟩ := h
  obtain ⟨its, rv, hl, _⟩ := I.list hs
  rw [Vals.ref1 r]
  have hlen := rv.length
  rw [List.length_map] at hlen
  exact min_strs (I.ok.hd hc) hl.isList rv.strs (by omega) fun h' tk m t' hk h1 h2 => ⟨.str _, H, I.kept hk, ⟨_, rfl⟩, q m h1 h2⟩
def rStrS : List V → Hp → VK → Prop := fun xs H Q => ∃ a : Str, xs = [.str a] ∧ Q (.str a) H
theorem cl_strS : CallR X (.type "str") rStrS := SkE.call_str_str
end
section
variable {B : Bs} {env : List Sl} {P : Dt → Prop} {m : Bool} {ta tb : TE} {K : PySem.W.Frag}
theorem ev_strS (h : Ev B false ta env fun x => ∃ z, x = .str z ∧ P (.str z)) : Ev B m (tCB rStrS (tCons ta tNil)) env P := fun F H σ E Q q => h F H σ E _ fun d v F1 H1 h1 E1 g1 r1 => by
  obtain ⟨z, rfl, hp⟩ := h1
  exact ⟨S z, by rw [Rp.str_iff.mp r1], q _ _ F1 H1 hp E1 g1 (Rp.str_iff.mpr rfl)⟩
theorem ev_minS (h : Ev B false ta env fun x => ∃ ns : List (List Nat), x = .list (ns.map .str) ∧ 0 < ns.length ∧ ∀ k, k ∈ ns → (∀ y ∈ ns, k ≤ y) → P (.str k)) : Ev B m (tCB (rMinS K) (tCons ta tNil)) env P := fun F H σ E Q q => h F H σ E _ fun d v F1 H1 h1 E1 g1 r1 => by
  obtain ⟨ns, rfl, h0, hp⟩ := h1
  obtain ⟨a, vs, rfl, ha, hv⟩ := Rp.list_iff.mp r1
  rw [RpAll.strs_iff] at hv
  subst hv
  refine ⟨a, ns.map S, rfl, SqL.of ha, by rw [List.length_map]; exact h0, fun k hk hle => ?_⟩
  obtain ⟨z, hz, rfl⟩ := List.mem_map.mp hk
  refine q _ _ F1 H1 (hp z hz fun y hy => ?_) E1 g1 (Rp.str_iff.mpr rfl)
  have := hle (S y) (List.mem_map_of_mem hy)
  rwa [S_cps, S_cps] at this
end
end DL

set_option Elab.async false
set_option linter.all false
set_option maxRecDepth 100000
set_option maxHeartbeats 4000000
set_option autoImplicit false
namespace DL
open PySem PySem.Spec PyProof.Rows L2 M01 M03
local macro_rules | `(tactic| walk_at "lit") => `(tactic| fail "lit")
local macro_rules | `(tactic| walk_at "side") => `(tactic| first | omega | (simp only [CMul, CDiv, CPow, List.length_nil, List.length_cons, List.length_map, List.length_append, List.length_replicate]; omega) | decide | (simp; done) | (simp; omega))
local macro_rules | `(tactic| walk_at "es1") => `(tactic| first
  | ((with_reducible refine es_own (xs := ?dld) ?dlh ?_); (case dlh => exact rfl))
  | ((with_reducible refine es_el ?_); walk_at "el1")
  | with_reducible refine es_ev ?_)
local macro_rules | `(tactic| walk_at "el1") => `(tactic| first
  | with_reducible refine el_lst ?_
  | with_reducible refine el_cat ?_
  | with_reducible refine el_rep ?_
  | with_reducible refine el_listOf ?_
  | with_reducible refine el_revL ?_
  | with_reducible refine el_slL ?_
  | with_reducible refine el_sortedI ?_
  | with_reducible refine el_listRg1 ?_
  | with_reducible refine el_sortedSetS ?_
  | with_reducible refine el_sortedSetT ?_
  | with_reducible refine el_call ?_)
local macro_rules | `(tactic| walk_at "et1") => `(tactic| first
  | with_reducible refine et_ib ?_
  | with_reducible refine et_eq ?_
  | with_reducible refine et_ne ?_
  | with_reducible refine et_and ?_
  | with_reducible refine et_or ?_
  | with_reducible refine et_not ?_
  | with_reducible refine et_ltS ?_
  | with_reducible refine et_gtS ?_
  | with_reducible refine et_leS ?_
  | with_reducible refine et_geS ?_
  | with_reducible refine et_yes ?_
  | with_reducible refine et_test ?_
  | with_reducible refine et_B ?_)
local macro_rules | `(tactic| walk_at "ev1") => `(tactic| first
  | ((with_reducible refine ev_var (d := ?dld) ?dlh ?_); (case dlh => exact rfl))
  | with_reducible refine ev_int ?_
  | with_reducible refine ev_ii ?_
  | with_reducible refine ev_iiC ?_
  | ((with_reducible refine ev_own (xs := ?dld) ?dlh ?_); (case dlh => exact rfl))
  | ((with_reducible refine ev_str (x := ?dld) ?dlh ?_); (case dlh => walk_at "lit"))
  | with_reducible refine ev_int1 ?_
  | with_reducible refine ev_call ?_
  | with_reducible refine ev_callN ?_
  | with_reducible refine ev_callS ?_
  | ((with_reducible refine ev_what (by assumption) (by exact rfl) ?_))
  | with_reducible refine ev_lenS ?_
  | ((with_reducible refine ev_lenRaw (a := ?dla) (ns := ?dln) ?dlh ?dls ?_); (case dlh => exact rfl); (case dls => assumption))
  | with_reducible refine ev_lenL ?_
  | with_reducible refine ev_ixS ?_
  | ((with_reducible refine ev_ixRaw (a := ?dla) (ns := ?dln) ?dlh ?dls ?_); (case dlh => exact rfl); (case dls => assumption))
  | with_reducible refine ev_ixL ?_
  | with_reducible refine ev_ixT ?_
  | with_reducible refine ev_slS ?_
  | with_reducible refine ev_addS ?_
  | with_reducible refine ev_mulS ?_
  | with_reducible refine ev_revS ?_
  | with_reducible refine ev_bl ?_
  | with_reducible refine ev_non ?_
  | with_reducible refine ev_ib ?_
  | with_reducible refine ev_eq ?_
  | with_reducible refine ev_ne ?_
  | with_reducible refine ev_neg ?_
  | with_reducible refine ev_tup ?_
  | with_reducible refine ev_abs ?_
  | with_reducible refine ev_gcd ?_
  | with_reducible refine ev_index ?_
  | with_reducible refine ev_max2 ?_
  | with_reducible refine ev_min2 ?_
  | with_reducible refine ev_sum ?_
  | with_reducible refine ev_all ?_
  | with_reducible refine ev_any ?_
  | with_reducible refine ev_if ?_
  | with_reducible refine ev_notV ?_
  | with_reducible refine ev_andV ?_
  | with_reducible refine ev_orV ?_
  | with_reducible refine ev_isNn ?_
  | with_reducible refine ev_notNn ?_
  | with_reducible refine ev_isBl ?_
  | with_reducible refine ev_notBl ?_
  | with_reducible refine ev_isV ?_
  | with_reducible refine ev_isiT ?_
  | with_reducible refine ev_isi ?_
  | with_reducible refine ev_chainS ?_
  | with_reducible refine ev_chainI ?_
  | with_reducible refine ev_ltS ?_
  | with_reducible refine ev_leS ?_
  | with_reducible refine ev_in ?_
  | with_reducible refine ev_join ?_
  | with_reducible refine ev_maxL ?_
  | with_reducible refine ev_minS ?_
  | with_reducible refine ev_strS ?_
  | with_reducible refine ev_minL ?_
  | with_reducible refine ev_eqD ?_
  | with_reducible refine ev_neD ?_
  | ((with_reducible refine ev_el ?_); walk_at "el1"))
local macro_rules | `(tactic| walk_at "wp1") => `(tactic| first
  | with_reducible refine wp_seq ?_
  | with_reducible refine nx_sq ?_
  | ((with_reducible refine wp_asgO ?_); first | with_reducible refine el_lst ?_ | with_reducible refine el_rep ?_)
  | with_reducible refine wp_asg ?_
  | with_reducible refine wp_if ?_
  | ((with_reducible refine wp_aug (a := ?dld) ?dlh ?_); (case dlh => exact rfl))
  | ((with_reducible refine wp_append (xs := ?dld) ?dlh ?_); (case dlh => exact rfl))
  | ((with_reducible refine wp_augL (xs := ?dld) ?dlh ?_); (case dlh => exact rfl))
  | ((with_reducible refine wp_setL (xs := ?dld) ?dlh ?_); (case dlh => exact rfl))
  | ((with_reducible refine wp_reverse (xs := ?dld) ?dlh ?_); (case dlh => exact rfl))
  | with_reducible refine wp_par ?_
  | with_reducible refine wp_try ?_
  | ((with_reducible refine wp_raise ?dlx ?_); (case dlx => assumption))
  | with_reducible refine wp_tup2 ?_
  | with_reducible refine wp_drop ?_
  | with_reducible refine wp_next ?_
  | with_reducible refine wp_break ?_
  | with_reducible refine wp_continue ?_
  | (refine wp_ret (Φ := ?dld) ?dlr ?_; (case dlr => assumption)))
local macro_rules | `(tactic| walk_at "lf1") => `(tactic| first
  | with_reducible refine eqT_int ?_ ?_
  | with_reducible refine eqT_str ?_ ?_
  | with_reducible refine eqT_bl ?_ ?_
  | with_reducible refine eqP_int ?_
  | with_reducible refine eqP_str ?_
  | with_reducible refine eqP_bl ?_
  | with_reducible refine neP_int ?_
  | with_reducible refine neP_str ?_
  | with_reducible refine neP_bl ?_
  | with_reducible refine lenP_l ?_
  | with_reducible refine lenP_t ?_
  | with_reducible refine ⟨_, _, rfl, rfl, ?_⟩
  | with_reducible refine ⟨_, rfl, ?_⟩
  | with_reducible refine ⟨_, _, rfl, ?_⟩
  | with_reducible refine Or.inl ⟨_, rfl, ?_⟩
  | with_reducible refine Or.inr ⟨_, rfl, ?_⟩
  | ((with_reducible refine And.intro ?dls ?_); (case dls => walk_at "side")))
local macro_rules | `(tactic| walk_at "w1") => `(tactic| first
  | ((with_reducible show Ev _ _ _ _ _); walk_at "ev1")
  | ((with_reducible show Ea _ _ _ _ _); first | with_reducible refine ea_cons ?_ | with_reducible refine ea_nil ?_)
  | ((with_reducible show Et _ _ _ _ _); walk_at "et1")
  | ((with_reducible show Es _ _ _ _); walk_at "es1")
  | ((with_reducible show Eo _ _ _ _); first | with_reducible refine eo_none ?_ | with_reducible refine eo_some ?_)
  | ((with_reducible show El _ _ _ _); walk_at "el1")
  | walk_at "wp1"
  | walk_at "lf1")
local macro_rules | `(tactic| walk_at "w") => `(tactic| repeat walk_at "w1")

local macro_rules | `(tactic| walk_at "lit") => `(tactic| first | with_reducible exact lit_e0 | with_reducible exact lit_a)
def LeastR (w L : List Nat) : Prop := ∃ m, L = rot w m ∧ (w.length = 0 ∨ m < w.length) ∧ ∀ t, t < w.length → L ≤ rot w t
def rLeastC : Rd1 := fun args Φ => ∃ w, args = [.str w] ∧ w.length ≤ 10000 ∧ Lets w ∧ ∀ L, LeastR w L → Φ (.str L)
def rIsLyn : Rd1 := fun args Φ => ∃ w, args = [.str w] ∧ w.length ≤ 10000 ∧ Lets w ∧ Φ (.bl (decide (Lyn w)))
def rLynF : Rd1 := fun args Φ => ∃ w, args = [.str w] ∧ w.length ≤ 10000 ∧ Lets w ∧ ∀ fs, Fac w fs → Φ (.list (fs.map .str))
def rStd : Rd1 := fun args Φ => ∃ (w : List Nat) (c : Nat), args = [.str w] ∧ w.length ≤ 10000 ∧ Lets w ∧ Lyn w ∧ 2 ≤ w.length ∧ (1 ≤ c ∧ c < w.length ∧ Lyn (w.drop c) ∧ ∀ j, 1 ≤ j → j < c → ¬ Lyn (w.drop j)) ∧ Φ (.tup [.str (w.take c), .str (w.drop c)])
def rLawLyn : Rd1 := fun args Φ => ∃ w, args = [.str w] ∧ w.length ≤ 10000 ∧ Φ (.bl (decide (Lyn w)))
def rLongest : Rd1 := fun args Φ => ∃ (w : List Nat), args = [.str w] ∧ w.length ≤ 10000 ∧ ∀ m, (m = 0 ∨ m ≤ w.length ∧ Lyn (w.take m)) → (∀ j, 1 ≤ j → j ≤ w.length → Lyn (w.take j) → j ≤ m) → Φ (.str (w.take m))
def t_least_conjugate (K : PySem.W.Frag) : TS :=
  (tSeq (tDrop (tCall (spD 1 rCheckWord) [] E0 (tCons (tVar 0) tNil)))
  (tSeq (tAsg (tOp rAddS (tVar 0) (tVar 0)) (gName 1))
  (tSeq (tAsg (tC (.int 0)) (gName 2))
  (tSeq (tAsg (tC (.int 1)) (gName 3))
  (tSeq (tAsg (tC (.int 0)) (gName 4))
  (tSeq (tWhile (tAnd (tTest (tOp (rI0 fun i j => .bl (decide (i < j))) (tVar 3) (tCB rLenS (tCons (tVar 0) tNil)))) (tAnd (tTest (tOp (rI0 fun i j => .bl (decide (i < j))) (tVar 2) (tCB rLenS (tCons (tVar 0) tNil)))) (tTest (tOp (rI0 fun i j => .bl (decide (i < j))) (tVar 4) (tCB rLenS (tCons (tVar 0) tNil)))))) (tSeq (tPar 5 6 (tCons (tOp rIxS (tVar 1) (tOp (rI0 fun i j => .int (i + j)) (tVar 2) (tVar 4))) (tCons (tOp rIxS (tVar 1) (tOp (rI0 fun i j => .int (i + j)) (tVar 3) (tVar 4))) tNil)))
  (tIfS (tTest (tOp rEq (tVar 5) (tVar 6))) (tAug 4 (tC (.int 1)) (ipI fun i j => i + j)) (tSeq (tIfS (tTest (tOp rGtS (tVar 5) (tVar 6))) (tAsg (tOp (rI0 fun i j => .int (i + j)) (tOp (rI0 fun i j => .int (i + j)) (tVar 2) (tVar 4)) (tC (.int 1))) (gName 2)) (tAsg (tOp (rI0 fun i j => .int (i + j)) (tOp (rI0 fun i j => .int (i + j)) (tVar 3) (tVar 4)) (tC (.int 1))) (gName 3)))
  (tSeq (tIfS (tTest (tOp rEq (tVar 2) (tVar 3))) (tAug 3 (tC (.int 1)) (ipI fun i j => i + j)) tNext)
  (tAsg (tC (.int 0)) (gName 4)))))))
  (tSeq (tAsg (tCB rMin2' (tCons (tVar 2) (tCons (tVar 3) tNil))) (gName 2))
  (tRet (tSl rSlS (tVar 1) (tPart (tVar 2)) (tPart (tOp (rI0 fun i j => .int (i + j)) (tVar 2) (tCB rLenS (tCons (tVar 0) tNil)))))))))))))

def t_is_lyndon (K : PySem.W.Frag) : TS :=
  (tSeq (tDrop (tCall (spD 1 rCheckWord) [] E0 (tCons (tVar 0) tNil)))
  (tRet (tAndV (tOp rNe (tVar 0) (tC (.str ""))) (tCB (rAll K) (tCons (tLc (iRng2 (tCons (tC (.int 1)) (tCons (tCB rLenS (tCons (tVar 0) tNil)) tNil))) (gName 1) tYes (tOp rLtS (tVar 0) (tSl rSlS (tVar 0) (tPart (tVar 1)) tNoPart)) [1]) tNil)))))

def t_lyndon_factors (K : PySem.W.Frag) : TS :=
  (tSeq (tDrop (tCall (spD 1 rCheckWord) [] E0 (tCons (tVar 0) tNil)))
  (tSeq (tAsg (tLst tNil) (gName 1))
  (tSeq (tAsg (tC (.int 0)) (gName 2))
  (tSeq (tWhile (tTest (tOp (rI0 fun i j => .bl (decide (i < j))) (tVar 2) (tCB rLenS (tCons (tVar 0) tNil)))) (tSeq (tAsg (tOp (rI0 fun i j => .int (i + j)) (tVar 2) (tC (.int 1))) (gName 3))
  (tSeq (tAsg (tVar 2) (gName 4))
  (tSeq (tWhile (tAnd (tTest (tOp (rI0 fun i j => .bl (decide (i < j))) (tVar 3) (tCB rLenS (tCons (tVar 0) tNil)))) (tTest (tOp rLeS (tOp rIxS (tVar 0) (tVar 4)) (tOp rIxS (tVar 0) (tVar 3))))) (tSeq (tAsg (tIf (tTest (tOp rLtS (tOp rIxS (tVar 0) (tVar 4)) (tOp rIxS (tVar 0) (tVar 3)))) (tVar 2) (tOp (rI0 fun i j => .int (i + j)) (tVar 4) (tC (.int 1)))) (gName 4))
  (tAug 3 (tC (.int 1)) (ipI fun i j => i + j))))
  (tWhile (tTest (tOp (rI0 fun i j => .bl (decide (i ≤ j))) (tVar 2) (tVar 4))) (tSeq (tDrop (tBM K "list" rAppend (tVar 1) (tCons (tSl rSlS (tVar 0) (tPart (tVar 2)) (tPart (tOp (rI0 fun i j => .int (i - j)) (tOp (rI0 fun i j => .int (i + j)) (tVar 2) (tVar 3)) (tVar 4)))) tNil)))
  (tAsg (tOp (rI0 fun i j => .int (i - j)) (tOp (rI0 fun i j => .int (i + j)) (tVar 2) (tVar 3)) (tVar 4)) (gName 2))))))))
  (tRet (tVar 1))))))

def t_standard_factors (K : PySem.W.Frag) : TS :=
  (tSeq (tIfS (tOr (tNot (tB (tCall (spD 1 rIsLyn) [] E0 (tCons (tVar 0) tNil)))) (tTest (tOp (rI0 fun i j => .bl (decide (i < j))) (tCB rLenS (tCons (tVar 0) tNil)) (tC (.int 2))))) tNever tNext)
  (tSeq (tFor (iRng2 (tCons (tC (.int 1)) (tCons (tCB rLenS (tCons (tVar 0) tNil)) tNil))) (gName 1) (tIfS (tB (tCall (spD 1 rIsLyn) [] E0 (tCons (tSl rSlS (tVar 0) (tPart (tVar 1)) tNoPart) tNil))) (tRet (tTup (tCons (tSl rSlS (tVar 0) tNoPart (tPart (tVar 1))) (tCons (tSl rSlS (tVar 0) (tPart (tVar 1)) tNoPart) tNil)))) tNext))
  (tRet (tC .non))))

def t_law_is_lyndon (K : PySem.W.Frag) : TS :=
  (tSeq (tFor (iRng2 (tCons (tC (.int 1)) (tCons (tCB rLenS (tCons (tVar 0) tNil)) tNil))) (gName 1) (tIfS (tTest (tOp rLeS (tSl rSlS (tVar 0) (tPart (tVar 1)) tNoPart) (tVar 0))) (tRet (tC (.bl false))) tNext))
  (tRet (tOp rNe (tVar 0) (tC (.str "")))))

def t_law_longest (K : PySem.W.Frag) : TS :=
  (tSeq (tAsg (tC (.str "")) (gName 1))
  (tSeq (tFor (iRng2 (tCons (tC (.int 1)) (tCons (tOp (rI0 fun i j => .int (i + j)) (tCB rLenS (tCons (tVar 0) tNil)) (tC (.int 1))) tNil))) (gName 2) (tIfS (tB (tCall (spD 1 rLawLyn) [] E0 (tCons (tSl rSlS (tVar 0) tNoPart (tPart (tVar 2))) tNil))) (tAsg (tSl rSlS (tVar 0) tNoPart (tPart (tVar 2))) (gName 1)) tNext))
  (tRet (tVar 1))))

theorem leastC_i {w : List Nat} {Φ : Dt → Prop} (h1 : w.length ≤ 10000) (h2 : Lets w) (h : ∀ L, LeastR w L → Φ (.str L)) : rLeastC [.str w] Φ := ⟨w, rfl, h1, h2, h⟩
theorem isLyn_i {w : List Nat} {Φ : Dt → Prop} (h1 : w.length ≤ 10000) (h2 : Lets w) (h : Φ (.bl (decide (Lyn w)))) : rIsLyn [.str w] Φ := ⟨w, rfl, h1, h2, h⟩
theorem lynF_i {w : List Nat} {Φ : Dt → Prop} (h1 : w.length ≤ 10000) (h2 : Lets w) (h : ∀ fs, Fac w fs → Φ (.list (fs.map .str))) : rLynF [.str w] Φ := ⟨w, rfl, h1, h2, h⟩
theorem lawLyn_i {w : List Nat} {Φ : Dt → Prop} (h1 : w.length ≤ 10000) (h : Φ (.bl (decide (Lyn w)))) : rLawLyn [.str w] Φ := ⟨w, rfl, h1, h⟩
theorem longest_i {w : List Nat} {Φ : Dt → Prop} (h1 : w.length ≤ 10000) (h : ∀ m, (m = 0 ∨ m ≤ w.length ∧ Lyn (w.take m)) → (∀ j, 1 ≤ j → j ≤ w.length → Lyn (w.take j) → j ≤ m) → Φ (.str (w.take m))) : rLongest [.str w] Φ := ⟨w, rfl, h1, h⟩
theorem fac_nil_len {w : List Nat} (h : w.length = 0) : w = [] := List.length_eq_zero_iff.mp h
theorem w_least_conjugate {K : PySem.W.Frag} : WpD (t_least_conjugate K) 7 rLeastC := by
  rintro B Q args Φ ⟨w, rfl, hl, hw, hΦ⟩ hr
  show Wp B (t_least_conjugate K) [.dat (.str w), .no, .no, .no, .no, .no, .no] (Top Q)
  unfold t_least_conjugate
  walk_at "w"
  refine checkWord_i hl hw ?_
  walk_at "w"
  refine wp_while (fun k e => ∃ (i j l : Nat) (x5 x6 : Sl), e = [.dat (.str w), .dat (.str (w ++ w)), .dat (.int i), .dat (.int j), .dat (.int l), x5, x6] ∧ k = 3 * w.length - (i + j + l) ∧ (w.length = 0 ∧ i = 0 ∧ j = 1 ∨ 0 < w.length ∧ LC w i j l)) (3 * w.length - 1) ?_ ?_
  · refine ⟨0, 1, 0, _, _, rfl, rfl, ?_⟩
    rcases Nat.eq_zero_or_pos w.length with z | z
    · exact .inl ⟨z, rfl, rfl⟩
    · exact .inr ⟨z, lc_start z⟩
  rintro k e ⟨i, j, l, x5, x6, rfl, rfl, hL⟩
  refine et_imp (PT' := j < w.length ∧ i < w.length ∧ l < w.length) (PF' := w.length ≤ i ∨ w.length ≤ j ∨ w.length ≤ l) ?_ ?_ ?_
  · walk_at "w"
    refine ⟨fun h1 => ?_, fun h1 => by omega⟩
    walk_at "w"
    refine ⟨fun h2 => ?_, fun h2 => by omega⟩
    walk_at "w"
    exact fun h3 => by omega
  · rintro ⟨hj, hi, hk⟩
    have L : LC w i j l := by
      rcases hL with ⟨z, _⟩ | ⟨_, L⟩
      · omega
      · exact L
    have hll : (w ++ w).length = w.length + w.length := List.length_append
    have hn : 0 < w.length := by omega
    walk_at "w"
    refine leaf_ixS (by omega) (by omega) (by omega) fun c hc => ?_
    walk_at "w"
    refine leaf_ixS (by omega) (by omega) (by omega) fun d hd => ?_
    rw [show ((i : Int) + l).toNat = i + l by omega, dd_C (by omega)] at hc
    rw [show ((j : Int) + l).toNat = j + l by omega, dd_C (by omega)] at hd
    cases hc
    cases hd
    walk_at "w"
    · intro h
      have h := (List.cons.inj h).1
      walk_at "w"
      exact nx_lo ⟨_, by omega, i, j, l + 1, _, _, rfl, rfl, .inr ⟨hn, lc_eq L hk h⟩⟩
    · intro h
      have h : C w (i + l) ≠ C w (j + l) := fun z => h (by rw [z])
      refine wp_seq ?_
      refine wp_rest (fun e => ∃ (i' j' : Nat), e = [.dat (.str w), .dat (.str (w ++ w)), .dat (.int i'), .dat (.int j'), .dat (.int l), .dat (.str [C w (i + l)]), .dat (.str [C w (j + l)])] ∧ i' + j' = i + j + l + 1 ∧ (i' ≠ j' → LC w i' j' 0) ∧ (i' = j' → LC w i' (j' + 1) 0)) ?_ (fun u hu => ?_)
      · rintro e ⟨i', j', rfl, hs, hx1, hx2⟩
        refine wp_seq ?_
        refine wp_rest (fun e => ∃ (i' j' : Nat), e = [.dat (.str w), .dat (.str (w ++ w)), .dat (.int i'), .dat (.int j'), .dat (.int l), .dat (.str [C w (i + l)]), .dat (.str [C w (j + l)])] ∧ i + j + l + 1 ≤ i' + j' ∧ LC w i' j' 0) ?_ (fun u hu => ?_)
        · rintro e ⟨i', j', rfl, hs, L'⟩
          walk_at "w"
          exact nx_lo ⟨_, by omega, i', j', 0, _, _, rfl, rfl, .inr ⟨hn, L'⟩⟩
        · walk_at "w"
          · intro h
            walk_at "w"
            exact hu _ ⟨i', j' + 1, rfl, by omega, hx2 (by omega)⟩
          · intro h
            walk_at "w"
            exact hu _ ⟨i', j', rfl, by omega, hx1 (by omega)⟩
      · walk_at "w"
        refine ⟨fun h2 => ?_, fun h2 => ?_⟩
        · have h2 := lt1.mp h2
          obtain ⟨q1, q2⟩ := lc_gt L hi hj hk h2
          walk_at "w"
          refine hu _ ⟨i + l + 1, j, rfl, by omega, q1, fun e => ?_⟩
          exact q2 e
        · have h2 : C w (i + l) < C w (j + l) := by
            have : ¬ C w (j + l) < C w (i + l) := fun z => h2 (lt1.mpr z)
            omega
          obtain ⟨q1, q2⟩ := lc_lt L hi hj hk h2
          walk_at "w"
          refine hu _ ⟨i, j + l + 1, rfl, by omega, fun e => q1 (Ne.symm e), fun e => ?_⟩
          exact q2 e.symm
  · intro h
    have hll : (w ++ w).length = w.length + w.length := List.length_append
    walk_at "w"
    rw [cutL_mid _ (by omega) (by omega), show (min (i : Int) (j : Int) + (w.length : Int)).toNat - (min (i : Int) (j : Int)).toNat = w.length by omega, show (min (i : Int) (j : Int)).toNat = min i j by omega]
    refine hΦ _ ?_
    rcases hL with ⟨z, rfl, rfl⟩ | ⟨hn, L⟩
    · have := fac_nil_len z
      subst this
      exact ⟨0, rfl, .inl rfl, fun t ht => by cases ht⟩
    · obtain ⟨h1, h2⟩ := lc_end L h
      rw [cut_rot (by omega)]
      exact ⟨_, rfl, .inr h1, h2⟩
theorem w_is_lyndon {K : PySem.W.Frag} : WpD (t_is_lyndon K) 2 rIsLyn := by
  rintro B Q args Φ ⟨w, rfl, hl, hw, hΦ⟩ hr
  show Wp B (t_is_lyndon K) [.dat (.str w), .no] (Top Q)
  unfold t_is_lyndon
  walk_at "w"
  refine checkWord_i hl hw ?_
  walk_at "w"
  refine ⟨fun h => ?_, fun h => ?_⟩
  · have hne : w ≠ [] := by simpa using h
    walk_at "w"
    refine ev_el (el_lcR2 (fun ys h => by cases h) ?_)
    walk_at "w"
    refine ⟨fun i acc => acc = ((List.range i).map fun k => decide (w < w.drop (1 + k))).map .bl, rfl, fun i hi acc ha => ?_, fun acc ha => ?_⟩
    · subst ha
      walk_at "w"
      rw [cutL_drop _ (by omega), show ((1 : Int) + i).toNat = 1 + i by omega]
      show _ = _
      rw [List.range_succ, List.map_append, List.map_append]
      rfl
    · subst ha
      refine ⟨_, rfl, ?_⟩
      have : (List.map (fun k => decide (w < List.drop (1 + k) w)) (List.range ((w.length : Int) - 1).toNat)).all id = decide (Lyn w) := by
        rw [Bool.eq_iff_iff, List.all_eq_true, decide_eq_true_eq]
        constructor
        · intro h
          refine ⟨hne, fun i hi h0 => ?_⟩
          have := h (decide (w < w.drop (1 + (i - 1)))) (List.mem_map_of_mem (List.mem_range.mpr (by omega)))
          rw [show 1 + (i - 1) = i by omega] at this
          exact of_decide_eq_true this
        · intro h b hb
          obtain ⟨i, hi, rfl⟩ := List.mem_map.mp hb
          have := List.mem_range.mp hi
          exact decide_eq_true (h.2 (1 + i) (by omega) (by omega))
      rw [this]
      exact hΦ
  · have hne : w = [] := by simpa using h
    have : decide (Lyn w) = false := decide_eq_false fun z => z.1 hne
    rw [this] at hΦ
    exact hΦ
theorem w_lyndon_factors {K : PySem.W.Frag} : WpD (t_lyndon_factors K) 5 rLynF := by
  rintro B Q args Φ ⟨w, rfl, hl, hw, hΦ⟩ hr
  show Wp B (t_lyndon_factors K) [.dat (.str w), .no, .no, .no, .no] (Top Q)
  unfold t_lyndon_factors
  walk_at "w"
  refine checkWord_i hl hw ?_
  walk_at "w"
  refine wp_while (fun k e => ∃ (fs : List (List Nat)) (s : Nat) (x3 x4 : Sl), e = [.dat (.str w), .own (fs.map .str), .dat (.int s), x3, x4] ∧ k = w.length - s ∧ fs.length ≤ s ∧ Facs w fs s) w.length ⟨[], 0, _, _, rfl, by omega, Nat.le_refl _, facs_nil w⟩ ?_
  rintro k e ⟨fs, s, x3, x4, rfl, rfl, hfl, F⟩
  have hsl := F.le
  walk_at "w"
  refine ⟨fun h => ?_, fun h => ?_⟩
  · have hs : s < w.length := by omega
    walk_at "w"
    refine wp_rest (fun e => ∃ (o h : Nat), e = [.dat (.str w), .own (fs.map .str), .dat (.int s), .dat (.int o), .dat (.int h)] ∧ Inner w s h o ∧ (o = w.length ∨ G w o < G w h)) ?_ (fun u hu => ?_)
    · rintro e ⟨o, h, rfl, I, en⟩
      have E0 := emit_start F I en
      have i1 := I.sh
      have i2 := I.ho
      have i3 := I.on
      refine wp_while (fun k e => ∃ (fs : List (List Nat)) (s' : Nat), e = [.dat (.str w), .own (fs.map .str), .dat (.int s'), .dat (.int o), .dat (.int h)] ∧ k = o - s' ∧ fs.length ≤ s' ∧ s ≤ s' ∧ Emit w fs s h o s') (o - s) ⟨fs, s, rfl, rfl, hfl, Nat.le_refl _, E0⟩ ?_
      rintro k e ⟨fs', s', rfl, rfl, hfl', hss, E⟩
      have hso := E.so
      walk_at "w"
      refine ⟨fun hc => ?_, fun hc => ?_⟩
      · walk_at "w"
        rw [cutL_mid _ (by omega) (by omega), show ((s' : Int) + o - h).toNat - (s' : Int).toNat = o - h by omega, Int.toNat_natCast]
        walk_at "w"
        refine nx_lo ⟨_, ?_, fs' ++ [(w.drop s').take (o - h)], s' + (o - h), ?_, rfl, ?_, by omega, emit_step E (by omega)⟩
        · omega
        · rw [List.map_append, show (s' : Int) + o - h = ((s' + (o - h) : Nat) : Int) by omega]
          rfl
        · rw [List.length_append]
          show _ + 1 ≤ _
          omega
      · obtain ⟨F', hs'⟩ := emit_end E (by omega)
        exact nx_lo ⟨_, by omega, fs', s', _, _, rfl, rfl, hfl', F'⟩
    · refine wp_while (fun k e => ∃ (o h : Nat), e = [.dat (.str w), .own (fs.map .str), .dat (.int s), .dat (.int o), .dat (.int h)] ∧ k = w.length - o ∧ Inner w s h o) (w.length - (s + 1)) ⟨s + 1, s, rfl, rfl, inner_start hs⟩ ?_
      rintro k e ⟨o, h, rfl, rfl, I⟩
      have i1 := I.sh
      have i2 := I.ho
      have i3 := I.on
      refine et_imp (PT' := o < w.length ∧ G w h ≤ G w o) (PF' := o = w.length ∨ G w o < G w h) ?_ ?_ ?_
      · walk_at "w"
        refine ⟨fun ho => ?_, fun ho => by omega⟩
        walk_at "w"
        refine leaf_ixS (by omega) (by omega) (by omega) fun c hc => ?_
        walk_at "w"
        refine leaf_ixS (by omega) (by omega) (by omega) fun d hd => ?_
        rw [Int.toNat_natCast] at hc hd
        rw [G_of hc, G_of hd]
        walk_at "w"
        refine ⟨fun z => ?_, fun z => .inr (lt1.mp z)⟩
        have : ¬ d < c := fun q => z (lt1.mpr q)
        omega
      · rintro ⟨ho, hle⟩
        walk_at "w"
        refine leaf_ixS (by omega) (by omega) (by omega) fun c hc => ?_
        walk_at "w"
        refine leaf_ixS (by omega) (by omega) (by omega) fun d hd => ?_
        rw [Int.toNat_natCast] at hc hd
        rw [G_of hc, G_of hd] at hle
        walk_at "w"
        refine ⟨fun z => ?_, fun z => ?_⟩
        · walk_at "w"
          refine nx_lo ⟨_, ?_, o + 1, s, rfl, rfl, inner_lt I ho ?_⟩
          · omega
          · rw [G_of hc, G_of hd]; exact lt1.mp z
        · walk_at "w"
          refine nx_lo ⟨_, ?_, o + 1, h + 1, rfl, rfl, inner_eq I ho ?_⟩
          · omega
          · have : ¬ c < d := fun q => z (lt1.mpr q)
            rw [G_of hc, G_of hd]; omega
      · intro en
        exact hu _ ⟨o, h, rfl, I, en⟩
  · have : ¬ s < w.length := by omega
    refine nx_sq (wp_freeze (i := 1) rfl ?_)
    walk_at "w"
    exact hΦ _ (facs_end F (by omega))
theorem w_standard_factors {K : PySem.W.Frag} : WpD (t_standard_factors K) 2 rStd := by
  rintro B Q args Φ ⟨w, c, rfl, hl, hw, hL, h2, ⟨c1, c2, c3, c4⟩, hΦ⟩ hr
  show Wp B (t_standard_factors K) [.dat (.str w), .no] (Top Q)
  unfold t_standard_factors
  walk_at "w"
  refine isLyn_i hl hw ?_
  rw [decide_eq_true hL]
  refine tB_yes ?_
  walk_at "w"
  intro _
  walk_at "w"
  refine wp_forR2 ?_
  walk_at "w"
  refine ⟨fun i e => ∃ x : Sl, e = [.dat (.str w), x] ∧ i < c, ⟨_, rfl, c1⟩, ?_, ?_⟩
  · rintro i d e hi rfl ⟨x, rfl, hic⟩
    walk_at "w"
    rw [cutL_drop _ (by omega), show ((1 : Int) + i).toNat = 1 + i by omega]
    refine isLyn_i (by rw [List.length_drop]; omega) (lets_drop hw) ?_
    refine ⟨_, rfl, fun z => ?_, fun z => ?_⟩
    · have z := of_decide_eq_true z
      have e : 1 + i = c := by
        rcases Nat.lt_or_ge (1 + i) c with q | q
        · exact absurd z (c4 _ (by omega) q)
        · omega
      walk_at "w"
      rw [cutL_take _ (by omega), cutL_drop _ (by omega), show ((1 : Int) + i).toNat = c by omega]
      exact hΦ
    · have z := of_decide_eq_false z
      walk_at "w"
      refine nx_lo ⟨_, rfl, ?_⟩
      rcases Nat.lt_or_ge (i + 1) c with q | q
      · exact q
      · rw [show 1 + i = c by omega] at z
        exact absurd c3 z
  · rintro e ⟨x, rfl, hx⟩
    omega
theorem w_law_is_lyndon {K : PySem.W.Frag} : WpD (t_law_is_lyndon K) 2 rLawLyn := by
  rintro B Q args Φ ⟨w, rfl, hl, hΦ⟩ hr
  show Wp B (t_law_is_lyndon K) [.dat (.str w), .no] (Top Q)
  unfold t_law_is_lyndon
  walk_at "w"
  refine wp_forR2 ?_
  walk_at "w"
  refine ⟨fun i e => ∃ x : Sl, e = [.dat (.str w), x] ∧ ∀ j, 1 ≤ j → j ≤ i → w < w.drop j, ⟨_, rfl, fun j a b => by omega⟩, ?_, ?_⟩
  · rintro i d e hi rfl ⟨x, rfl, hx⟩
    walk_at "w"
    rw [cutL_drop _ (by omega), show ((1 : Int) + i).toNat = 1 + i by omega]
    refine ⟨fun z => ?_, fun z => ?_⟩
    · walk_at "w"
      rw [decide_eq_false (fun q : Lyn w => z (q.2 (1 + i) (by omega) (by omega)))] at hΦ
      exact hΦ
    · walk_at "w"
      refine nx_lo ⟨_, rfl, fun j a b => ?_⟩
      by_cases q : j ≤ i
      · exact hx j a q
      · rw [show j = 1 + i by omega]; exact z
  · rintro e ⟨x, rfl, hx⟩
    walk_at "w"
    have : (!decide (w = [])) = decide (Lyn w) := by
      by_cases q : w = []
      · rw [decide_eq_true q, decide_eq_false fun z : Lyn w => z.1 q]; rfl
      · rw [decide_eq_false q, decide_eq_true (show Lyn w from ⟨q, fun i hi h0 => hx i h0 (by omega)⟩)]; rfl
    rw [this]
    exact hΦ
theorem w_law_longest {K : PySem.W.Frag} : WpD (t_law_longest K) 3 rLongest := by
  rintro B Q args Φ ⟨w, rfl, hl, hΦ⟩ hr
  show Wp B (t_law_longest K) [.dat (.str w), .no, .no] (Top Q)
  unfold t_law_longest
  walk_at "w"
  refine wp_forR2 ?_
  walk_at "w"
  refine ⟨fun i e => ∃ (m : Nat) (x : Sl), e = [.dat (.str w), .dat (.str (w.take m)), x] ∧ (m = 0 ∨ m ≤ w.length ∧ Lyn (w.take m)) ∧ ∀ j, 1 ≤ j → j ≤ i → Lyn (w.take j) → j ≤ m, ⟨0, .no, by rw [List.take_zero]; rfl, .inl rfl, fun j a b => by omega⟩, ?_, ?_⟩
  · rintro i d e hi rfl ⟨m, x, rfl, hm, hx⟩
    walk_at "w"
    rw [cutL_take _ (by omega), show ((1 : Int) + i).toNat = 1 + i by omega]
    refine lawLyn_i (by rw [List.length_take]; omega) ?_
    refine ⟨_, rfl, fun z => ?_, fun z => ?_⟩
    · have z := of_decide_eq_true z
      walk_at "w"
      rw [cutL_take _ (by omega), show ((1 : Int) + i).toNat = 1 + i by omega]
      exact nx_lo ⟨1 + i, _, rfl, .inr ⟨by omega, z⟩, fun j a b _ => by omega⟩
    · have z := of_decide_eq_false z
      walk_at "w"
      refine nx_lo ⟨m, _, rfl, hm, fun j a b q => ?_⟩
      by_cases c : j ≤ i
      · exact hx j a c q
      · rw [show j = 1 + i by omega] at q
        exact absurd q z
  · rintro e ⟨m, x, rfl, hm, hx⟩
    walk_at "w"
    exact hΦ m hm fun j a b q => hx j a (by omega) q
end DL

set_option Elab.async false
set_option linter.all false
set_option maxRecDepth 100000
set_option maxHeartbeats 4000000
set_option autoImplicit false
namespace DL
open PySem PySem.Spec PyProof.Rows L2 M01 M03
local macro_rules | `(tactic| walk_at "lit") => `(tactic| fail "lit")
local macro_rules | `(tactic| walk_at "side") => `(tactic| first | omega | (simp only [CMul, CDiv, CPow, List.length_nil, List.length_cons, List.length_map, List.length_append, List.length_replicate]; omega) | decide | (simp; done) | (simp; omega))
local macro_rules | `(tactic| walk_at "es1") => `(tactic| first
  | ((with_reducible refine es_own (xs := ?dld) ?dlh ?_); (case dlh => exact rfl))
  | ((with_reducible refine es_el ?_); walk_at "el1")
  | with_reducible refine es_ev ?_)
local macro_rules | `(tactic| walk_at "el1") => `(tactic| first
  | with_reducible refine el_lst ?_
  | with_reducible refine el_cat ?_
  | with_reducible refine el_rep ?_
  | with_reducible refine el_listOf ?_
  | with_reducible refine el_revL ?_
  | with_reducible refine el_slL ?_
  | with_reducible refine el_sortedI ?_
  | with_reducible refine el_listRg1 ?_
  | with_reducible refine el_sortedSetS ?_
  | with_reducible refine el_sortedSetT ?_
  | with_reducible refine el_call ?_)
local macro_rules | `(tactic| walk_at "et1") => `(tactic| first
  | with_reducible refine et_ib ?_
  | with_reducible refine et_eq ?_
  | with_reducible refine et_ne ?_
  | with_reducible refine et_and ?_
  | with_reducible refine et_or ?_
  | with_reducible refine et_not ?_
  | with_reducible refine et_ltS ?_
  | with_reducible refine et_gtS ?_
  | with_reducible refine et_leS ?_
  | with_reducible refine et_geS ?_
  | with_reducible refine et_yes ?_
  | with_reducible refine et_test ?_
  | with_reducible refine et_B ?_)
local macro_rules | `(tactic| walk_at "ev1") => `(tactic| first
  | ((with_reducible refine ev_var (d := ?dld) ?dlh ?_); (case dlh => exact rfl))
  | with_reducible refine ev_int ?_
  | with_reducible refine ev_ii ?_
  | with_reducible refine ev_iiC ?_
  | ((with_reducible refine ev_own (xs := ?dld) ?dlh ?_); (case dlh => exact rfl))
  | ((with_reducible refine ev_str (x := ?dld) ?dlh ?_); (case dlh => walk_at "lit"))
  | with_reducible refine ev_int1 ?_
  | with_reducible refine ev_call ?_
  | with_reducible refine ev_callN ?_
  | with_reducible refine ev_callS ?_
  | ((with_reducible refine ev_what (by assumption) (by exact rfl) ?_))
  | with_reducible refine ev_lenS ?_
  | ((with_reducible refine ev_lenRaw (a := ?dla) (ns := ?dln) ?dlh ?dls ?_); (case dlh => exact rfl); (case dls => assumption))
  | with_reducible refine ev_lenL ?_
  | with_reducible refine ev_ixS ?_
  | ((with_reducible refine ev_ixRaw (a := ?dla) (ns := ?dln) ?dlh ?dls ?_); (case dlh => exact rfl); (case dls => assumption))
  | with_reducible refine ev_ixL ?_
  | with_reducible refine ev_ixT ?_
  | with_reducible refine ev_slS ?_
  | with_reducible refine ev_addS ?_
  | with_reducible refine ev_mulS ?_
  | with_reducible refine ev_revS ?_
  | with_reducible refine ev_bl ?_
  | with_reducible refine ev_non ?_
  | with_reducible refine ev_ib ?_
  | with_reducible refine ev_eq ?_
  | with_reducible refine ev_ne ?_
  | with_reducible refine ev_neg ?_
  | with_reducible refine ev_tup ?_
  | with_reducible refine ev_abs ?_
  | with_reducible refine ev_gcd ?_
  | with_reducible refine ev_index ?_
  | with_reducible refine ev_max2 ?_
  | with_reducible refine ev_min2 ?_
  | with_reducible refine ev_sum ?_
  | with_reducible refine ev_all ?_
  | with_reducible refine ev_any ?_
  | with_reducible refine ev_if ?_
  | with_reducible refine ev_notV ?_
  | with_reducible refine ev_andV ?_
  | with_reducible refine ev_orV ?_
  | with_reducible refine ev_isNn ?_
  | with_reducible refine ev_notNn ?_
  | with_reducible refine ev_isBl ?_
  | with_reducible refine ev_notBl ?_
  | with_reducible refine ev_isV ?_
  | with_reducible refine ev_isiT ?_
  | with_reducible refine ev_isi ?_
  | with_reducible refine ev_chainS ?_
  | with_reducible refine ev_chainI ?_
  | with_reducible refine ev_ltS ?_
  | with_reducible refine ev_leS ?_
  | with_reducible refine ev_in ?_
  | with_reducible refine ev_join ?_
  | with_reducible refine ev_maxL ?_
  | with_reducible refine ev_minS ?_
  | with_reducible refine ev_strS ?_
  | with_reducible refine ev_minL ?_
  | with_reducible refine ev_eqD ?_
  | with_reducible refine ev_neD ?_
  | ((with_reducible refine ev_el ?_); walk_at "el1"))
local macro_rules | `(tactic| walk_at "wp1") => `(tactic| first
  | with_reducible refine wp_seq ?_
  | with_reducible refine nx_sq ?_
  | ((with_reducible refine wp_asgO ?_); first | with_reducible refine el_lst ?_ | with_reducible refine el_rep ?_)
  | with_reducible refine wp_asg ?_
  | with_reducible refine wp_if ?_
  | ((with_reducible refine wp_aug (a := ?dld) ?dlh ?_); (case dlh => exact rfl))
  | ((with_reducible refine wp_append (xs := ?dld) ?dlh ?_); (case dlh => exact rfl))
  | ((with_reducible refine wp_augL (xs := ?dld) ?dlh ?_); (case dlh => exact rfl))
  | ((with_reducible refine wp_setL (xs := ?dld) ?dlh ?_); (case dlh => exact rfl))
  | ((with_reducible refine wp_reverse (xs := ?dld) ?dlh ?_); (case dlh => exact rfl))
  | with_reducible refine wp_par ?_
  | with_reducible refine wp_try ?_
  | ((with_reducible refine wp_raise ?dlx ?_); (case dlx => assumption))
  | with_reducible refine wp_tup2 ?_
  | with_reducible refine wp_drop ?_
  | with_reducible refine wp_next ?_
  | with_reducible refine wp_break ?_
  | with_reducible refine wp_continue ?_
  | (refine wp_ret (Φ := ?dld) ?dlr ?_; (case dlr => assumption)))
local macro_rules | `(tactic| walk_at "lf1") => `(tactic| first
  | with_reducible refine eqT_int ?_ ?_
  | with_reducible refine eqT_str ?_ ?_
  | with_reducible refine eqT_bl ?_ ?_
  | with_reducible refine eqP_int ?_
  | with_reducible refine eqP_str ?_
  | with_reducible refine eqP_bl ?_
  | with_reducible refine neP_int ?_
  | with_reducible refine neP_str ?_
  | with_reducible refine neP_bl ?_
  | with_reducible refine lenP_l ?_
  | with_reducible refine lenP_t ?_
  | with_reducible refine ⟨_, _, rfl, rfl, ?_⟩
  | with_reducible refine ⟨_, rfl, ?_⟩
  | with_reducible refine ⟨_, _, rfl, ?_⟩
  | with_reducible refine Or.inl ⟨_, rfl, ?_⟩
  | with_reducible refine Or.inr ⟨_, rfl, ?_⟩
  | ((with_reducible refine And.intro ?dls ?_); (case dls => walk_at "side")))
local macro_rules | `(tactic| walk_at "w1") => `(tactic| first
  | ((with_reducible show Ev _ _ _ _ _); walk_at "ev1")
  | ((with_reducible show Ea _ _ _ _ _); first | with_reducible refine ea_cons ?_ | with_reducible refine ea_nil ?_)
  | ((with_reducible show Et _ _ _ _ _); walk_at "et1")
  | ((with_reducible show Es _ _ _ _); walk_at "es1")
  | ((with_reducible show Eo _ _ _ _); first | with_reducible refine eo_none ?_ | with_reducible refine eo_some ?_)
  | ((with_reducible show El _ _ _ _); walk_at "el1")
  | walk_at "wp1"
  | walk_at "lf1")
local macro_rules | `(tactic| walk_at "w") => `(tactic| repeat walk_at "w1")

theorem lit_abc : ("abc" : Str) = S [97, 98, 99] := by decide +kernel
local macro_rules | `(tactic| walk_at "lit") => `(tactic| first | with_reducible exact lit_e0 | with_reducible exact lit_z | with_reducible exact lit_ab | with_reducible exact lit_abc)
theorem pureStr {x : List Nat} (h : Lets x) : pureD (.str x) = true := by
  unfold pureD
  rw [List.all_eq_true]
  intro c hc
  have := h c hc
  exact decide_eq_true (by omega)
theorem same_ss {a : Dt} {x y : List Nat} {Φ : Dt → Prop} (e : a = .tup [.str x, .str y]) (hx : Lets x) (hy : Lets y) (h : Φ (.bl true)) : rSame [a, .tup [.str x, .str y]] Φ :=
  same_i e (by unfold pureD; unfold pureDs; rw [pureStr hx]; unfold pureDs; rw [pureStr hy]; rfl) (by simp [lenD, lenDs]) (by simp [dep, deps]) h
theorem pures_strs : ∀ xs : List (List Nat), (∀ x ∈ xs, Lets x) → pureDs (xs.map .str) = true
  | [], _ => rfl
  | x :: xs, h => by
    rw [List.map_cons]
    unfold pureDs
    rw [pureStr (h x List.mem_cons_self), pures_strs xs fun y hy => h y (List.mem_cons_of_mem _ hy)]
    rfl
theorem lens_strs : ∀ xs : List (List Nat), lenDs (xs.map .str) = true
  | [] => rfl
  | x :: xs => by
    rw [List.map_cons]
    unfold lenDs
    rw [lens_strs xs]
    rfl
theorem deps_strs : ∀ xs : List (List Nat), deps (xs.map .str) = 0
  | [] => by simp [deps]
  | x :: xs => by
    rw [List.map_cons]
    unfold deps
    rw [deps_strs xs]
    simp [dep]
theorem same_strs {a : Dt} {xs : List (List Nat)} {Φ : Dt → Prop} (e : a = .list (xs.map .str)) (hx : ∀ x ∈ xs, Lets x) (hl : xs.length ≤ 100000) (h : Φ (.bl true)) : rSame [a, .list (xs.map .str)] Φ :=
  same_i e (by unfold pureD; exact pures_strs xs hx) (by unfold lenD; rw [lens_strs, decide_eq_true (by rw [List.length_map]; exact hl)]; rfl) (by unfold dep; rw [deps_strs]; decide) h
theorem fac_len : ∀ {fs : List (List Nat)} {w : List Nat}, Fac w fs → fs.length ≤ w.length
  | [], _, _ => Nat.zero_le _
  | f :: fs, w, F => by
    have h1 := fac_len F.tail
    have h2 := List.length_pos_iff.mpr (F.ly f List.mem_cons_self).1
    have h3 := congrArg List.length F.fl
    rw [List.flatten_cons, List.length_append] at h3
    rw [List.length_cons]
    omega
theorem fac_mem {fs : List (List Nat)} {w f : List Nat} (F : Fac w fs) (h : f ∈ fs) : f.length ≤ w.length ∧ ∀ c ∈ f, c ∈ w := by
  have e := F.fl
  subst e
  exact ⟨(List.sublist_flatten_of_mem h).length_le, fun c hc => List.mem_flatten.mpr ⟨f, h, hc⟩⟩
theorem fac_sum {fs : List (List Nat)} {w : List Nat} (F : Fac w fs) : (fs.map List.length).sum = w.length := by
  rw [← F.fl, List.length_flatten]
theorem rep_single {α : Type} (n : Nat) (x : α) : (List.replicate n [x]).flatten = List.replicate n x := by
  induction n with
  | zero => rfl
  | succ n ih => rw [List.replicate_succ, List.flatten_cons, ih]; rfl
def NOs (x : Sl) : Prop := ∀ xs, x ≠ .own xs
def LE (a : Addr) (l : List Nat) (i : Int) (w : List Nat) (fs : List (List Nat)) (x6 x7 x8 x9 x10 x11 : Sl) : List Sl :=
  [.dat (.raw a), .dat .deck, .dat (.str l), .dat (.int i), .dat (.str w), .dat (.list (fs.map .str)), x6, x7, x8, x9, x10, x11]
def t_law (K : PySem.W.Frag) : TS :=
  (tSeq (tAsg (tCall (spDeck K) [] E0 (tCons (tVar 0) (tCons (tC (.int 30)) (tCons (tC (.int 14)) tNil)))) (gName 1))
  (tSeq (tAsg (tOp (rIxL K) (tLst (tCons (tC (.str "z")) (tCons (tC (.str "ab")) (tCons (tC (.str "abc")) tNil)))) (tCall (spD 2 rTake) [] E0 (tCons (tVar 1) (tCons (tC (.int 3)) tNil)))) (gName 2))
  (tSeq (tFor (iRng1 (tCons (tC (.int 2)) tNil)) (gName 3) (tSeq (tAsg (tCall (spD 3 rLong) [] E0 (tCons (tVar 1) (tCons (tVar 2) (tCons (tC (.int 64)) tNil)))) (gName 4))
  (tSeq (tAsg (tCall (spD 1 rLynF) [] E0 (tCons (tVar 4) tNil)) (gName 5))
  (tSeq (tIfS (tOr (tNot (tB (tCall (spD 2 rSame) [] E0 (tCons (tVar 5) (tCons (tLc (iList K (tVar 5)) (gName 11) tYes (tCB rStrS (tCons (tVar 11) tNil)) [11]) tNil))))) (tTest (tOp rNe (tBM K "str" (rJoin K) (tC (.str "")) (tCons (tVar 5) tNil)) (tVar 4)))) (tRet (tC (.bl false))) tNext)
  (tSeq (tFor (iRng1 (tCons (tCB (rLenL K) (tCons (tVar 5) tNil)) tNil)) (gName 6) (tSeq (tIfS (tOr (tNot (tB (tCall (spD 1 rLawLyn) [] E0 (tCons (tOp (rIxL K) (tVar 5) (tVar 6)) tNil)))) (tAnd (tTest (tOp (rI0 fun i j => .bl (decide (j < i))) (tVar 6) (tC (.int 0)))) (tTest (tOp rLtS (tOp (rIxL K) (tVar 5) (tOp (rI0 fun i j => .int (i - j)) (tVar 6) (tC (.int 1)))) (tOp (rIxL K) (tVar 5) (tVar 6)))))) (tRet (tC (.bl false))) tNext)
  (tIfS (tTest (tOp (rI0 fun i j => .bl (decide (j < i))) (tCB rLenS (tCons (tOp (rIxL K) (tVar 5) (tVar 6)) tNil)) (tC (.int 1)))) (tSeq (tAsg (tOp (rIxL K) (tLc (iRng2 (tCons (tC (.int 1)) (tCons (tCB rLenS (tCons (tOp (rIxL K) (tVar 5) (tVar 6)) tNil)) tNil))) (gName 7) (tB (tCall (spD 1 rLawLyn) [] E0 (tCons (tSl rSlS (tOp (rIxL K) (tVar 5) (tVar 6)) (tPart (tVar 7)) tNoPart) tNil))) (tVar 7) [7]) (tC (.int 0))) (gName 10))
  (tIfS (tNot (tB (tCall (spD 2 rSame) [] E0 (tCons (tCall (spD 1 rStd) [] E0 (tCons (tOp (rIxL K) (tVar 5) (tVar 6)) tNil)) (tCons (tTup (tCons (tSl rSlS (tOp (rIxL K) (tVar 5) (tVar 6)) tNoPart (tPart (tVar 10))) (tCons (tSl rSlS (tOp (rIxL K) (tVar 5) (tVar 6)) (tPart (tVar 10)) tNoPart) tNil))) tNil))))) (tRet (tC (.bl false))) tNext)) tNext)))
  (tSeq (tIfS (tTest (tOp rNe (tVar 4) (tC (.str "")))) (tIfS (tOr (tTest (tOp rNe (tOp (rIxL K) (tVar 5) (tC (.int 0))) (tCall (spD 1 rLongest) [] E0 (tCons (tVar 4) tNil)))) (tTest (tOp rNe (tOp (rIxL K) (tVar 5) (tOp (rI0 fun i j => .int (i - j)) (tCB (rLenL K) (tCons (tVar 5) tNil)) (tC (.int 1)))) (tCB (rMinS K) (tCons (tLc (iRng1 (tCons (tCB rLenS (tCons (tVar 4) tNil)) tNil)) (gName 6) tYes (tSl rSlS (tVar 4) (tPart (tVar 6)) tNoPart) [6]) tNil))))) (tRet (tC (.bl false))) tNext) tNext)
  (tSeq (tFor (iRng1 (tCons (tOp (rI0 fun i j => .int (i + j)) (tCB rMin2' (tCons (tCB rLenS (tCons (tVar 4) tNil)) (tCons (tC (.int 12)) tNil))) (tC (.int 1))) tNil)) (gName 7) (tIfS (tNot (tB (tCall (spD 2 rSame) [] E0 (tCons (tCall (spD 1 rIsLyn) [] E0 (tCons (tSl rSlS (tVar 4) tNoPart (tPart (tVar 7))) tNil)) (tCons (tCall (spD 1 rLawLyn) [] E0 (tCons (tSl rSlS (tVar 4) tNoPart (tPart (tVar 7))) tNil)) tNil))))) (tRet (tC (.bl false))) tNext))
  (tSeq (tAsg (tCB (rMinS K) (tCons (tLc (iRng1 (tCons (tCB rMax2' (tCons (tC (.int 1)) (tCons (tCB rLenS (tCons (tVar 4) tNil)) tNil))) tNil)) (gName 6) tYes (tOp rAddS (tSl rSlS (tVar 4) (tPart (tVar 6)) tNoPart) (tSl rSlS (tVar 4) tNoPart (tPart (tVar 6)))) [6]) tNil)) (gName 8))
  (tSeq (tIfS (tNot (tB (tCall (spD 2 rSame) [] E0 (tCons (tCall (spD 1 rLeastC) [] E0 (tCons (tVar 4) tNil)) (tCons (tVar 8) tNil))))) (tRet (tC (.bl false))) tNext)
  (tSeq (tAsg (tLc (iRng2 (tCons (tC (.int 1)) (tCons (tOp (rI0 fun i j => .int (i + j)) (tCB rLenS (tCons (tVar 4) tNil)) (tC (.int 1))) tNil))) (gName 7) (tTest (tOp rEq (tOp rMulS (tSl rSlS (tVar 4) tNoPart (tPart (tVar 7))) (tOp (rI CDiv fun i j => .int (i / j)) (tCB rLenS (tCons (tVar 4) tNil)) (tVar 7))) (tVar 4))) (tVar 7) [7]) (gName 9))
  (tIfS (tAnd (tTest (tOp rNe (tVar 4) (tC (.str "")))) (tNot (tB (tCall (spD 2 rSame) [] E0 (tCons (tCall (spD 1 rLynF) [] E0 (tCons (tVar 8) tNil)) (tCons (tOp rRep (tLst (tCons (tSl rSlS (tVar 8) tNoPart (tPart (tOp (rIxL K) (tVar 9) (tC (.int 0))))) tNil)) (tOp (rI CDiv fun i j => .int (i / j)) (tCB rLenS (tCons (tVar 4) tNil)) (tOp (rIxL K) (tVar 9) (tC (.int 0))))) tNil)))))) (tRet (tC (.bl false))) tNext)))))))))))
  (tRet (tC (.bl true))))))

theorem w_law {K : PySem.W.Frag} : WpLaw K (t_law K) 12 := by
  intro B Q a ns hS hl hΦ
  show Wp B (t_law K) [.dat (.raw a), .no, .no, .no, .no, .no, .no, .no, .no, .no, .no, .no] (Top Q)
  have hr := rt_law (B := B) hΦ
  unfold t_law
  refine wp_seq ?_
  refine wp_asg (ev_deck (i := 0) rfl hS (by omega) (by omega) (by omega) ?_)
  walk_at "w"
  refine take_i (by omega) fun k k0 k1 => ?_
  refine take3 k0 k1 fun l hl => ?_
  obtain ⟨hl2, hl3, hl4⟩ : 0 < l.length ∧ l.length ≤ 3 ∧ Lets l := by
    unfold Lets
    rcases hl with rfl | rfl | rfl <;> decide
  clear hl k0 k1
  walk_at "w"
  refine wp_forR1 ?_
  walk_at "w"
  refine ⟨fun i e => ∃ x3 x4 x5 x6 x7 x8 x9 x10 x11 : Sl, e = [.dat (.raw a), .dat .deck, .dat (.str l), x3, x4, x5, x6, x7, x8, x9, x10, x11] ∧ NOs x6 ∧ NOs x7 ∧ NOs x11, ⟨_, _, _, _, _, _, _, _, _, rfl, (fun xs h => by cases h), (fun xs h => by cases h), fun xs h => by cases h⟩, ?_, ?_⟩
  · rintro i d e hi rfl ⟨x3, x4, x5, x6, x7, x8, x9, x10, x11, rfl, n6, n7, n11⟩
    walk_at "w"
    refine long_i hl2 (by omega) (by omega) fun w hwm hwl => ?_
    have hwl : w.length ≤ 64 := hwl
    have hw : Lets w := lets_of hl4 hwm
    walk_at "w"
    refine lynF_i (by omega) hw fun fs F => ?_
    have hfl := fac_len F
    have hfm : ∀ f ∈ fs, f.length ≤ 64 ∧ Lets f := fun f hf => by
      obtain ⟨q1, q2⟩ := fac_mem F hf
      exact ⟨by omega, lets_of hw q2⟩
    walk_at "w"
    refine ev_el (el_lcL (fun ys h => n11 ys (Option.some.inj h)) ?_)
    walk_at "w"
    refine ⟨fun i acc => acc = (fs.take i).map .str, rfl, fun j d hd acc ha => ?_, fun acc ha => ?_⟩
    · rw [List.getElem?_map] at hd
      obtain ⟨z, hz, rfl⟩ := Option.map_eq_some_iff.mp hd
      subst ha
      have hjl : j < fs.length := (List.getElem?_eq_some_iff.mp hz).1
      walk_at "w"
      show _ = _
      rw [show fs.take (j + 1) = fs.take j ++ [z] by rw [List.take_succ, hz]; rfl, List.map_append]
      rfl
    subst ha
    rw [List.length_map, List.take_length]
    walk_at "w"
    refine same_strs rfl (fun x hx => (hfm x hx).2) (by omega) ?_
    refine tB_yes ?_
    walk_at "w"
    refine ⟨by rw [fac_sum F]; simp; omega, ?_⟩
    rw [joinL_nil, F.fl]
    walk_at "w"
    rotate_left
    · intro h; exact absurd rfl h
    intro _
    refine nx_sq (wp_seq ?_)
    refine wp_rest (fun e => ∃ x6 x7 x8 x9 x10 x11, e = LE a l i w fs x6 x7 x8 x9 x10 x11 ∧ NOs x6 ∧ NOs x7 ∧ NOs x11) ?_ (fun u hu => ?_)
    · rintro e ⟨x6, x7, x8, x9, x10, x11, rfl, n6, n7, n11⟩
      unfold LE
      refine wp_seq ?_
      refine wp_rest (fun e => ∃ x6 x7 x8 x9 x10 x11, e = LE a l i w fs x6 x7 x8 x9 x10 x11 ∧ NOs x6 ∧ NOs x7 ∧ NOs x11) ?_ (fun u hu => ?_)
      · rintro e ⟨x6, x7, x8, x9, x10, x11, rfl, n6, n7, n11⟩
        unfold LE
        refine wp_seq ?_
        refine wp_rest (fun e => ∃ x6 x7 x8 x9 x10 x11, e = LE a l i w fs x6 x7 x8 x9 x10 x11 ∧ NOs x6 ∧ NOs x7 ∧ NOs x11) ?_ (fun u hu => ?_)
        · rintro e ⟨x6, x7, x8, x9, x10, x11, rfl, n6, n7, n11⟩
          unfold LE
          walk_at "w"
          refine ev_el (el_lcR1 (fun ys h => n6 ys (Option.some.inj h)) ?_)
          walk_at "w"
          rw [show (max (1 : Int) (w.length : Int)).toNat = max 1 w.length by omega]
          refine ⟨fun i acc => acc = ((List.range i).map (rot w)).map .str, rfl, fun j hj acc ha => ?_, fun acc ha => ?_⟩
          · subst ha
            have h1 : (cutL w (some (j : Int)) none).length ≤ w.length := cutL_len _ _ _
            have h2 : (cutL w none (some (j : Int))).length ≤ w.length := cutL_len _ _ _
            walk_at "w"
            rw [cutL_drop _ (by omega), cutL_take _ (by omega), Int.toNat_natCast]
            show _ = _
            rw [List.range_succ, List.map_append, List.map_append]
            rfl
          subst ha
          refine ⟨_, rfl, by rw [List.length_map, List.length_range]; omega, fun L hL hmin => ?_⟩
          obtain ⟨m, hm, rfl⟩ := List.mem_map.mp hL
          have hm := List.mem_range.mp hm
          have hrl := rot_len w m
          have hmin' : ∀ t, t < w.length → rot w m ≤ rot w t := fun t ht => hmin _ (List.mem_map_of_mem (List.mem_range.mpr (by omega)))
          have hrL : Lets (rot w m) := lets_app (lets_drop hw) (lets_take hw)
          walk_at "w"
          refine leastC_i (by omega) hw fun L' ⟨m', e1, e2, e3⟩ => ?_
          have hLL : L' = rot w m := by
            rw [e1]
            rcases e2 with z | z
            · have := fac_nil_len z
              subst this
              simp [rot]
            · refine List.le_antisymm ?_ (hmin' m' z)
              rw [← e1]
              exact e3 m (by omega)
          rw [hLL]
          walk_at "w"
          refine same_str rfl (fun c hc => by have := hrL c hc; omega) ?_
          refine tB_yes ?_
          refine nx_sq (wp_seq ?_)
          refine wp_asg (ev_el (el_lcR2 (fun ys h => n7 ys (Option.some.inj h)) ?_))
          walk_at "w"
          refine ⟨fun i acc => acc.length ≤ i ∧ ((w = [] ∧ acc = []) ∨ ∃ s, Per w s ∧ ((acc = [] ∧ i < s) ∨ ∃ rest, acc = .int s :: rest ∧ s ≤ i)), ?_, fun j hj acc ha => ?_, fun acc ha => ?_⟩
          · refine ⟨Nat.le_refl _, ?_⟩
            by_cases c : w = []
            · exact .inl ⟨c, rfl⟩
            · obtain ⟨s, P⟩ := per_ex c
              exact .inr ⟨s, P, .inl ⟨rfl, P.pos⟩⟩
          · obtain ⟨ha1, ha2⟩ := ha
            have hjn : 1 + j ≤ w.length := by omega
            rcases ha2 with ⟨rfl, -⟩ | ⟨s, P, hc⟩
            · simp at hjn
            have hq : ((w.length : Int) / (1 + (j : Int))).toNat = w.length / (1 + j) := by
              rw [show (1 : Int) + j = ((1 + j : Nat) : Int) by omega, ← Int.natCast_ediv, Int.toNat_natCast]
            have hqle : w.length / (1 + j) ≤ w.length := Nat.div_le_self _ _
            have hq0 : (0 : Int) ≤ (w.length : Int) / (1 + (j : Int)) := Int.ediv_nonneg (by omega) (by omega)
            have hdl : ((w.take (1 + j)).length) * (w.length / (1 + j)) ≤ w.length := by
              rw [List.length_take, Nat.min_eq_left hjn, Nat.mul_comm]
              exact Nat.div_mul_le_self _ _
            have ect : cutL w none (some (1 + (j : Int))) = w.take (1 + j) := by
              rw [cutL_take _ (by omega), show ((1 : Int) + j).toNat = 1 + j by omega]
            walk_at "w"
            rw [ect, hq]
            have fin1 : pw (w.take (1 + j)) (w.length / (1 + j)) = w → acc.length < 1000000 ∧ (acc ++ [Dt.int (1 + (j : Int))]).length ≤ j + 1 ∧ ((w = [] ∧ acc ++ [Dt.int (1 + (j : Int))] = []) ∨ ∃ s, Per w s ∧ ((acc ++ [Dt.int (1 + (j : Int))] = [] ∧ j + 1 < s) ∨ ∃ rest, acc ++ [Dt.int (1 + (j : Int))] = .int s :: rest ∧ s ≤ j + 1)) := fun he => by
              refine ⟨by omega, by rw [List.length_append]; show _ + 1 ≤ _; omega, .inr ⟨s, P, .inr ?_⟩⟩
              rcases hc with ⟨rfl, hs⟩ | ⟨rest, rfl, hs⟩
              · have : s = 1 + j := by
                  rcases Nat.lt_or_ge (1 + j) s with q | q
                  · exact absurd he (size_no P (by omega) q)
                  · omega
                exact ⟨[], by rw [this]; rfl, by omega⟩
              · exact ⟨rest ++ [.int (1 + (j : Int))], rfl, by omega⟩
            refine ⟨by omega, ?_⟩
            walk_at "w"
            · intro he
              walk_at "w"
              exact (fin1 he).2.2
            · intro he
              refine ⟨by omega, .inr ⟨s, P, ?_⟩⟩
              rcases hc with ⟨rfl, hs⟩ | ⟨rest, rfl, hs⟩
              · refine .inl ⟨rfl, ?_⟩
                rcases Nat.lt_or_ge (j + 1) s with q | q
                · exact q
                · have : s = 1 + j := by omega
                  subst this
                  exact absurd P.pw he
              · exact .inr ⟨rest, rfl, by omega⟩
          walk_at "w"
          rotate_left
          · intro hne
            obtain ⟨ha1, ha2⟩ := ha
            rcases ha2 with ⟨rfl, -⟩ | ⟨s, P, hc⟩
            · exact absurd rfl hne
            have hsn := P.le
            have hs1 := P.pos
            obtain ⟨rest, rfl, -⟩ : ∃ rest, acc = .int s :: rest ∧ s ≤ ((w.length : Int) + 1 - 1).toNat := by
              rcases hc with ⟨_, h⟩ | h
              · omega
              · exact h
            walk_at "w"
            refine lynF_i (by omega) hrL fun gs FL => ?_
            have hnn : 0 < w.length := by omega
            have hgs := FL.root P (show m < w.length by omega) rfl (fun t ht => by
              have hrr : ∃ t', t' < w.length ∧ rot (rot w m) t = rot w t' := by
                rw [hrl] at ht
                refine ⟨(m + t) % w.length, Nat.mod_lt _ hnn, ?_⟩
                refine ext_lt (by rw [rot_len, rot_len, rot_len]) fun c hc => ?_
                rw [rot_len, hrl] at hc
                rw [rot_get (by rw [hrl]; omega) (by rw [hrl]; exact hc), hrl, rot_get (by omega) (Nat.mod_lt _ hnn), rot_get (Nat.le_of_lt (Nat.mod_lt _ hnn)) hc, Nat.add_mod_mod, Nat.mod_add_mod, Nat.add_assoc]
              obtain ⟨t', ht', er⟩ := hrr
              rw [er]
              exact hmin' t' ht')
            walk_at "w"
            refine leaf_ixL (by omega) (by simp only [List.length_cons]; omega) fun d hd => ?_
            cases hd
            have hqd : ((w.length : Int) / (s : Int)).toNat = w.length / s := by
              rw [← Int.natCast_ediv, Int.toNat_natCast]
            have hq0 : (0 : Int) ≤ (w.length : Int) / (s : Int) := Int.ediv_nonneg (by omega) (by omega)
            have hqle : w.length / s ≤ w.length := Nat.div_le_self _ _
            walk_at "w"
            refine leaf_ixL (by omega) (by simp only [List.length_cons]; omega) fun d hd => ?_
            cases hd
            walk_at "w"
            rw [hqd, rep_single, cutL_take _ (by omega), Int.toNat_natCast]
            rw [← List.map_replicate]
            walk_at "w"
            refine same_strs (by rw [hgs]) (fun x hx => by rw [List.eq_of_mem_replicate hx]; exact lets_take hrL) (by rw [List.length_replicate]; omega) ?_
            refine tB_yes ?_
            walk_at "w"
            exact nx_lo ⟨_, _, _, _, _, _, _, _, _, rfl, n6, n7, n11⟩
          · intro _
            walk_at "w"
            exact nx_lo ⟨_, _, _, _, _, _, _, _, _, rfl, n6, n7, n11⟩
        · refine wp_forR1 ?_
          walk_at "w"
          refine ⟨fun i' e => ∃ x7, e = LE a l i w fs x6 x7 x8 x9 x10 x11 ∧ NOs x7, ⟨_, rfl, n7⟩, ?_, ?_⟩
          · rintro j d e hj rfl ⟨x7, rfl, n7⟩
            unfold LE
            walk_at "w"
            rw [cutL_take _ (by omega), Int.toNat_natCast]
            refine isLyn_i (by rw [List.length_take]; omega) (lets_take hw) ?_
            walk_at "w"
            rw [cutL_take _ (by omega), Int.toNat_natCast]
            refine lawLyn_i (by rw [List.length_take]; omega) ?_
            walk_at "w"
            refine same_bl rfl ?_
            refine tB_yes ?_
            walk_at "w"
            exact nx_lo ⟨_, rfl, fun xs h => by cases h⟩
          · rintro e ⟨x7, rfl, n7⟩
            exact hu _ ⟨_, _, _, _, _, _, rfl, n6, n7, n11⟩
      · walk_at "w"
        rotate_left
        · intro hne
          obtain ⟨f, fs, rfl⟩ : ∃ f gs, fs = f :: gs := by
            cases fs with
            | nil => exact absurd F.fl.symm hne
            | cons f gs => exact ⟨f, gs, rfl⟩
          have hf := (hfm f List.mem_cons_self)
          have hfle := (fac_mem F (f := f) List.mem_cons_self).1
          walk_at "w"
          refine leaf_ixStr (by omega) (by simp only [List.length_cons]; omega) fun d hd => ?_
          cases hd
          walk_at "w"
          refine longest_i (by omega) fun m hm hmax => ?_
          have hfp := List.length_pos_iff.mpr (F.ly f List.mem_cons_self).1
          have h1 : f.length ≤ m := hmax _ hfp hfle F.first_lyn
          have h2 : m ≤ f.length := by
            rcases hm with rfl | ⟨q1, q2⟩
            · omega
            · exact F.longest q1 q2
          have e : w.take m = f := by rw [show m = f.length by omega]; exact F.first
          rw [e]
          walk_at "w"
          rotate_left
          · intro z; exact absurd rfl z
          intro _
          walk_at "w"
          obtain ⟨z, hz⟩ : ∃ z, (f :: fs).getLast? = some z := ⟨_, List.getLast?_eq_some_getLast (by simp)⟩
          refine leaf_ixStr (by simp only [List.length_map, List.length_cons]; omega) (by simp only [List.length_map, List.length_cons]; omega) fun d hd => ?_
          have hdz : d = z := by
            rw [List.getLast?_eq_getElem?] at hz
            rw [show (((List.map Dt.str (f :: fs)).length : Int) - 1).toNat = (f :: fs).length - 1 by rw [List.length_map]; omega] at hd
            rw [hz] at hd
            exact (Option.some.inj hd).symm
          subst hdz
          obtain ⟨g1, g2, g3⟩ := F.last_drop hz
          have hmn := F.least hz
          walk_at "w"
          refine ev_el (el_lcR1 (fun ys h => n6 ys (Option.some.inj h)) ?_)
          walk_at "w"
          rw [Int.toNat_natCast]
          refine ⟨fun i acc => acc = ((List.range i).map fun t => w.drop t).map .str, rfl, fun j hj acc ha => ?_, fun acc ha => ?_⟩
          · subst ha
            walk_at "w"
            rw [cutL_drop _ (by omega), Int.toNat_natCast]
            show _ = _
            rw [List.range_succ, List.map_append, List.map_append]
            rfl
          subst ha
          refine ⟨_, rfl, by rw [List.length_map, List.length_range]; omega, fun L hL hmin => ?_⟩
          obtain ⟨m, hm, rfl⟩ := List.mem_map.mp hL
          have hm := List.mem_range.mp hm
          have eL : w.drop m = d := List.le_antisymm (by
            have := hmin (w.drop (w.length - d.length)) (List.mem_map_of_mem (List.mem_range.mpr (by omega)))
            rwa [g1] at this) (hmn m hm)
          rw [eL]
          walk_at "w"
          rotate_left
          · intro z; exact absurd rfl z
          intro _
          walk_at "w"
          exact hu _ ⟨_, _, _, _, _, _, rfl, n6, n7, n11⟩
        · intro _
          walk_at "w"
          exact hu _ ⟨_, _, _, _, _, _, rfl, n6, n7, n11⟩
    · refine wp_forR1 ?_
      walk_at "w"
      refine ⟨fun i' e => ∃ x6 x10, e = LE a l i w fs x6 x7 x8 x9 x10 x11 ∧ NOs x6, ⟨_, _, rfl, n6⟩, ?_, ?_⟩
      · rintro j d e hj rfl ⟨x6, x10, rfl, n6⟩
        unfold LE
        have hjl : j < fs.length := by simpa using hj
        obtain ⟨f, hf⟩ : ∃ f, fs[j]? = some f := ⟨_, List.getElem?_eq_getElem hjl⟩
        have hfmem := List.mem_of_getElem? hf
        have hfl' := (hfm f hfmem)
        have hf64 := hfl'.1
        refine wp_seq ?_
        refine wp_rest (fun e => e = LE a l i w fs (.dat (.int j)) x7 x8 x9 x10 x11) ?_ (fun u hu => ?_)
        · rintro e rfl
          unfold LE
          walk_at "w"
          refine leaf_ixStr (by omega) (by omega) fun f' hf' => ?_
          rw [Int.toNat_natCast, hf] at hf'
          cases hf'
          walk_at "w"
          refine ⟨fun h1 => ?_, fun h1 => ?_⟩
          · have hlast : Lyn (f.drop (f.length - 1)) := by
              have : (f.drop (f.length - 1)).length = 1 := by rw [List.length_drop]; omega
              refine ⟨fun z => (by rw [z] at this; cases this), fun q hq h0 => by omega⟩
            walk_at "w"
            refine ev_el (el_lcR2 (fun ys h => n7 ys (Option.some.inj h)) ?_)
            walk_at "w"
            refine leaf_ixStr (by omega) (by omega) fun f' hf' => ?_
            rw [Int.toNat_natCast, hf] at hf'
            cases hf'
            walk_at "w"
            refine ⟨fun i acc => acc.length ≤ i ∧ ((acc = [] ∧ ∀ t, 1 ≤ t → t ≤ i → ¬ Lyn (f.drop t)) ∨ ∃ (c : Nat) (rest : List Dt), acc = .int c :: rest ∧ 1 ≤ c ∧ c ≤ i ∧ Lyn (f.drop c) ∧ ∀ t, 1 ≤ t → t < c → ¬ Lyn (f.drop t)), ⟨Nat.le_refl _, .inl ⟨rfl, fun t a b => by omega⟩⟩, fun t ht acc ha => ?_, fun acc ha => ?_⟩
            · obtain ⟨ha1, ha2⟩ := ha
              walk_at "w"
              refine leaf_ixStr (by omega) (by omega) fun f' hf' => ?_
              rw [Int.toNat_natCast, hf] at hf'
              cases hf'
              walk_at "w"
              rw [cutL_drop _ (by omega), show ((1 : Int) + t).toNat = 1 + t by omega]
              refine lawLyn_i (by rw [List.length_drop]; omega) ?_
              refine ⟨_, rfl, fun z => ?_, fun z => ?_⟩
              · have z := of_decide_eq_true z
                walk_at "w"
                refine .inr ?_
                rcases ha2 with ⟨rfl, hno⟩ | ⟨c, rest, rfl, c1, c2, c3, c4⟩
                · exact ⟨1 + t, [], by rw [show (1 : Int) + t = ((1 + t : Nat) : Int) by omega]; rfl, by omega, by omega, z, fun q q1 q2 => hno q q1 (by omega)⟩
                · exact ⟨c, _, rfl, c1, by omega, c3, c4⟩
              · have z := of_decide_eq_false z
                refine ⟨by omega, ?_⟩
                rcases ha2 with ⟨rfl, hno⟩ | ⟨c, rest, rfl, c1, c2, c3, c4⟩
                · refine .inl ⟨rfl, fun q q1 q2 => ?_⟩
                  by_cases qt : q ≤ t
                  · exact hno q q1 qt
                  · rw [show q = 1 + t by omega]; exact z
                · exact .inr ⟨c, rest, rfl, c1, by omega, c3, c4⟩
            obtain ⟨ha1, ha2⟩ := ha
            obtain ⟨c, rest, rfl, c1, c2, c3, c4⟩ : ∃ (c : Nat) (rest : List Dt), acc = .int c :: rest ∧ 1 ≤ c ∧ c ≤ ((f.length : Int) - 1).toNat ∧ Lyn (f.drop c) ∧ ∀ t, 1 ≤ t → t < c → ¬ Lyn (f.drop t) := by
              rcases ha2 with ⟨_, hno⟩ | h
              · exact absurd hlast (hno _ (by omega) (by omega))
              · exact h
            walk_at "w"
            refine leaf_ixL (by omega) (by simp only [List.length_cons]; omega) fun d hd => ?_
            cases hd
            walk_at "w"
            refine leaf_ixStr (by omega) (by omega) fun f' hf' => ?_
            rw [Int.toNat_natCast, hf] at hf'
            cases hf'
            walk_at "w"
            refine ⟨f, c, rfl, by omega, hfl'.2, F.ly f hfmem, by omega, ⟨c1, by omega, c3, c4⟩, ?_⟩
            walk_at "w"
            refine leaf_ixStr (by omega) (by omega) fun f' hf' => ?_
            rw [Int.toNat_natCast, hf] at hf'
            cases hf'
            walk_at "w"
            refine leaf_ixStr (by omega) (by omega) fun f' hf' => ?_
            rw [Int.toNat_natCast, hf] at hf'
            cases hf'
            walk_at "w"
            rw [cutL_take _ (by omega), cutL_drop _ (by omega), Int.toNat_natCast]
            refine same_ss rfl (lets_take hfl'.2) (lets_drop hfl'.2) ?_
            refine tB_yes ?_
            walk_at "w"
            exact nx_lo ⟨_, _, rfl, fun xs h => by cases h⟩
          · walk_at "w"
            exact nx_lo ⟨_, _, rfl, fun xs h => by cases h⟩
        · walk_at "w"
          refine leaf_ixStr (by omega) (by omega) fun f' hf' => ?_
          rw [Int.toNat_natCast, hf] at hf'
          cases hf'
          walk_at "w"
          refine lawLyn_i (by omega) ?_
          rw [decide_eq_true (F.ly f hfmem)]
          refine tB_yes ?_
          walk_at "w"
          refine ⟨fun h0 => ?_, fun h0 => ?_⟩
          · walk_at "w"
            refine leaf_ixStr (by omega) (by omega) fun g hg => ?_
            walk_at "w"
            refine leaf_ixStr (by omega) (by omega) fun f' hf' => ?_
            rw [Int.toNat_natCast, hf] at hf'
            cases hf'
            rw [show ((j : Int) - 1).toNat = j - 1 by omega] at hg
            walk_at "w"
            refine ⟨fun z => ?_, fun _ => ?_⟩
            · exfalso
              have := List.pairwise_iff_getElem.mp F.pw (j - 1) j (by omega) hjl (by omega)
              rw [List.getElem?_eq_getElem (by omega)] at hg hf
              rw [Option.some.inj hg, Option.some.inj hf] at this
              exact this z
            · walk_at "w"
              exact hu _ rfl
          · walk_at "w"
            exact hu _ rfl
      · rintro e ⟨x6, x10, rfl, n6⟩
        exact hu _ ⟨_, _, _, _, _, _, rfl, n6, n7, n11⟩
  · rintro e ⟨x3, x4, x5, x6, x7, x8, x9, x10, x11, rfl, -⟩
    walk_at "w"
    rfl
end DL

set_option Elab.async false
set_option linter.all false
set_option maxRecDepth 100000
set_option maxHeartbeats 4000000
namespace DL
open PySem PySem.Spec PyProof.Rows L2 M03
def topS (i : Nat) : Stmt := PySem.Challenge.pw_langwork_k03_whole_long_lyndon_factors.main.body.getD i (.Pass ⟨0, 0, 0, 0⟩)
structure Blt (mg : Str → Option Value) : Prop where
  list : mg "list" = none
  tuple : mg "tuple" = none
  isinstance : mg "isinstance" = none
  dict : mg "dict" = none
  bool : mg "bool" = none
  int : mg "int" = none
  str : mg "str" = none
  all : mg "all" = none
  len : mg "len" = none
  min : mg "min" = none
  range : mg "range" = none
  abs : mg "abs" = none
  max : mg "max" = none
section
variable {P : Program} {w : World} {K : PySem.W.Frag} {mg : Str → Option Value} {base : Heap}
abbrev s_law_plain : Stmt := topS 14
theorem sc_law_plain : FnScope ["value", "item", "key"] ["value"] (defScope s_law_plain) := ⟨rfl, rfl, rfl, by decide +kernel, rfl, by decide +kernel, by decide +kernel⟩
theorem ok_law_plain (n : Nat) {f : Addr} {fd : FuncData} (F : Fun K "_law_plain" "_law_plain" s_law_plain f fd) (hB : Blt mg)   (d_self : Df P w K mg base (n + 0) "_law_plain" ["value"] (spD 1 (rPlain n))) : FnOk P w K mg base CX0 (n + 1) f fd ["value"] (spD 1 (rPlain (n + 1))) := by
  refine okD F sc_law_plain (by decide) rfl (fun cdv A outer s H E hr => ?_) (w_law_plain (K := K) n)
  exact (pss_cons (ps_if (pt_val (pe_callB call_isiT (by rfl) hB.isinstance (by decide +kernel) (pa_cons (pv 0) (pa_cons (pe_tup (pa_cons (pe_bltn (by rfl) hB.tuple (by decide +kernel) rfl) (pa_cons (pe_bltn (by rfl) hB.list (by decide +kernel) rfl) pa_nil))) pa_nil)))) (pss_one (ps_ret (pe_op op_cat (pe_lst (pa_cons (pe_callB call_isi (by rfl) hB.isinstance (by decide +kernel) (pa_cons (pv 0) (pa_cons (pe_bltn (by rfl) hB.list (by decide +kernel) rfl) pa_nil))) pa_nil)) (pe_lc (own := [("item", 1)]) (g := gName 1) (by rfl) sc_law_plain.nd (pi_or (pi_list (pv 0)) (pi_tup (pv 0))) (blkOk_by (own := [("item", 1)]) (N := ["value", "item", "key"]) (sc := defScope s_law_plain) (by decide +kernel)) (fun _ _ _ _ _ => pg_name (i := 1) sc_law_plain.nd rfl (Or.inl rfl)) (fun _ _ _ _ _ => pts_nil) (fun _ _ _ _ _ => (pe_d d_self hr (Nat.le_refl _) rfl (pa_cons (pv 1) pa_nil))))))) pss_nil)
    (pss_cons (ps_if (pt_val (pe_callB call_isi (by rfl) hB.isinstance (by decide +kernel) (pa_cons (pv 0) (pa_cons (pe_bltn (by rfl) hB.dict (by decide +kernel) rfl) pa_nil)))) (pss_one ps_never) pss_nil)
    (pss_cons (ps_if (PW.pt (pw_or (pt_cmpR op_isNn (pv 0) pe_non (nomark _)) (pw_or1 (pt_val (pe_callB call_isi (by rfl) hB.isinstance (by decide +kernel) (pa_cons (pv 0) (pa_cons (pe_bltn (by rfl) hB.bool (by decide +kernel) rfl) pa_nil))))))) (pss_one (ps_ret (pe_ix ix_list (pe_lst (pa_cons pe_str (pa_cons pe_str (pa_cons pe_str pa_nil)))) (pe_op op_add (pe_callTy cl_int1 (by rfl) hB.int (by decide +kernel) (pa_cons (pe_cmpR op_notNn (pv 0) pe_non (nomark _)) pa_nil)) (pe_callTy cl_int1 (by rfl) hB.int (by decide +kernel) (pa_cons (pe_cmpR op_isV (pv 0) pe_bl (nomark _)) pa_nil))) (fun _ _ => rfl)))) pss_nil)
    (pss_cons (ps_if (pt_val (pe_callB call_isiT (by rfl) hB.isinstance (by decide +kernel) (pa_cons (pv 0) (pa_cons (pe_tup (pa_cons (pe_bltn (by rfl) hB.int (by decide +kernel) rfl) (pa_cons (pe_bltn (by rfl) hB.str (by decide +kernel) rfl) pa_nil))) pa_nil)))) (pss_one (ps_ret (pe_lst (pa_cons (pe_callB call_isi (by rfl) hB.isinstance (by decide +kernel) (pa_cons (pv 0) (pa_cons (pe_bltn (by rfl) hB.str (by decide +kernel) rfl) pa_nil))) (pa_cons (pv 0) pa_nil))))) pss_nil)
    (pss_one ps_never)))))

abbrev s_is_word : Stmt := topS 4
theorem sc_is_word : FnScope ["word", "letter"] ["word"] (defScope s_is_word) := ⟨rfl, rfl, rfl, by decide +kernel, rfl, by decide +kernel, by decide +kernel⟩
theorem ok_is_word {f : Addr} {fd : FuncData} (F : Fun K "is_word" "is_word" s_is_word f fd) (hB : Blt mg)   : FnOk P w K mg base CX0 1 f fd ["word"] (spD 1 rIsWord) := by
  refine okD F sc_is_word (by decide) rfl (fun cdv A outer s H E hr => ?_) (w_is_word (K := K))
  exact (pss_one (ps_ret (pe_callB (cr_all rfl) (by rfl) hB.all (by decide +kernel) (pa_cons (pe_lc (own := [("letter", 1)]) (g := gName 1) (by rfl) sc_is_word.nd (pi_str (pv 0)) (blkOk_by (own := [("letter", 1)]) (N := ["word", "letter"]) (sc := defScope s_is_word) (by decide +kernel)) (fun _ _ _ _ _ => pg_name (i := 1) sc_is_word.nd rfl (Or.inl rfl)) (fun _ _ _ _ _ => pts_nil) (fun _ _ _ _ _ => (pe_chain op_leS op_leS pe_str (pv 1) pe_str))) pa_nil))))

abbrev s_check_word : Stmt := topS 5
theorem sc_check_word : FnScope ["word"] ["word"] (defScope s_check_word) := ⟨rfl, rfl, rfl, by decide +kernel, rfl, by decide +kernel, by decide +kernel⟩
theorem ok_check_word {f : Addr} {fd : FuncData} (F : Fun K "check_word" "check_word" s_check_word f fd)  (d_is_word : Df P w K mg base 1 "is_word" ["word"] (spD 1 rIsWord)) : FnOk P w K mg base CX0 2 f fd ["word"] (spD 1 rCheckWord) := by
  refine okD F sc_check_word (by decide) rfl (fun cdv A outer s H E hr => ?_) (w_check_word (K := K))
  exact (pss_one (ps_if (pt_not (pt_val (pe_d d_is_word hr (by decide) rfl (pa_cons (pv 0) pa_nil)))) (pss_one ps_never) pss_nil))

abbrev s_least_conjugate : Stmt := topS 7
theorem sc_least_conjugate : FnScope ["word", "double", "start", "other", "length", "one", "two"] ["word"] (defScope s_least_conjugate) := ⟨rfl, rfl, rfl, by decide +kernel, rfl, by decide +kernel, by decide +kernel⟩
theorem ok_least_conjugate {f : Addr} {fd : FuncData} (F : Fun K "least_conjugate" "least_conjugate" s_least_conjugate f fd) (hB : Blt mg)  (d_check_word : Df P w K mg base 2 "check_word" ["word"] (spD 1 rCheckWord)) : FnOk P w K mg base CX0 3 f fd ["word"] (spD 1 rLeastC) := by
  refine okD F sc_least_conjugate (by decide) rfl (fun cdv A outer s H E hr => ?_) (w_least_conjugate (K := K))
  exact (pss_cons (ps_expr (pe_d d_check_word hr (by decide) rfl (pa_cons (pv 0) pa_nil)))
    (pss_cons (ps_set (i := 1) sc_least_conjugate.nd rfl (by first | exact Or.inl rfl | exact Or.inr rfl) (pe_op op_addS (pv 0) (pv 0)))
    (pss_cons (ps_set (i := 2) sc_least_conjugate.nd rfl (by first | exact Or.inl rfl | exact Or.inr rfl) pe_int)
    (pss_cons (ps_set (i := 3) sc_least_conjugate.nd rfl (by first | exact Or.inl rfl | exact Or.inr rfl) pe_int)
    (pss_cons (ps_set (i := 4) sc_least_conjugate.nd rfl (by first | exact Or.inl rfl | exact Or.inr rfl) pe_int)
    (pss_cons (ps_while PassesOwn.never (PW.pt (pw_and (pt_cmpR op_lt (pv 3) (pe_callB cl_lenS (by rfl) hB.len PySem.boot_len (pa_cons (pv 0) pa_nil)) (nomark _)) (pw_and (pt_cmpR op_lt (pv 2) (pe_callB cl_lenS (by rfl) hB.len PySem.boot_len (pa_cons (pv 0) pa_nil)) (nomark _)) (pw_and1 (pt_cmpR op_lt (pv 4) (pe_callB cl_lenS (by rfl) hB.len PySem.boot_len (pa_cons (pv 0) pa_nil)) (nomark _)))))) (pss_cons (ps_par (by rfl) sc_least_conjugate.nd rfl rfl (by decide) rfl rfl (pa_cons (pe_ix ix_str (pv 1) (pe_op op_add (pv 2) (pv 4)) (fun _ _ => rfl)) (pa_cons (pe_ix ix_str (pv 1) (pe_op op_add (pv 3) (pv 4)) (fun _ _ => rfl)) pa_nil)) (by rfl))
    (pss_one (ps_if (pt_cmpR op_eq (pv 5) (pv 6) (nomark _)) (pss_one (ps_aug (i := 4) sc_least_conjugate.nd rfl (by first | exact Or.inl rfl | exact Or.inr rfl) pe_int ip_add)) (pss_cons (ps_if (pt_cmpR op_gtS (pv 5) (pv 6) (nomark _)) (pss_one (ps_set (i := 2) sc_least_conjugate.nd rfl (by first | exact Or.inl rfl | exact Or.inr rfl) (pe_op op_add (pe_op op_add (pv 2) (pv 4)) pe_int))) (pss_one (ps_set (i := 3) sc_least_conjugate.nd rfl (by first | exact Or.inl rfl | exact Or.inr rfl) (pe_op op_add (pe_op op_add (pv 3) (pv 4)) pe_int))))
    (pss_cons (ps_if (pt_cmpR op_eq (pv 2) (pv 3) (nomark _)) (pss_one (ps_aug (i := 3) sc_least_conjugate.nd rfl (by first | exact Or.inl rfl | exact Or.inr rfl) pe_int ip_add)) pss_nil)
    (pss_one (ps_set (i := 4) sc_least_conjugate.nd rfl (by first | exact Or.inl rfl | exact Or.inr rfl) pe_int))))))))
    (pss_cons (ps_set (i := 2) sc_least_conjugate.nd rfl (by first | exact Or.inl rfl | exact Or.inr rfl) (pe_callB (cl_min2 rfl) (by rfl) hB.min (by decide +kernel) (pa_cons (pv 2) (pa_cons (pv 3) pa_nil))))
    (pss_one (ps_ret (pe_slice sl_str (pv 1) (po_some (pv 2)) (po_some (pe_op op_add (pv 2) (pe_callB cl_lenS (by rfl) hB.len PySem.boot_len (pa_cons (pv 0) pa_nil))))))))))))))

abbrev s_is_lyndon : Stmt := topS 8
theorem sc_is_lyndon : FnScope ["word", "at"] ["word"] (defScope s_is_lyndon) := ⟨rfl, rfl, rfl, by decide +kernel, rfl, by decide +kernel, by decide +kernel⟩
theorem ok_is_lyndon {f : Addr} {fd : FuncData} (F : Fun K "is_lyndon" "is_lyndon" s_is_lyndon f fd) (hB : Blt mg)  (d_check_word : Df P w K mg base 2 "check_word" ["word"] (spD 1 rCheckWord)) : FnOk P w K mg base CX0 3 f fd ["word"] (spD 1 rIsLyn) := by
  refine okD F sc_is_lyndon (by decide) rfl (fun cdv A outer s H E hr => ?_) (w_is_lyndon (K := K))
  exact (pss_cons (ps_expr (pe_d d_check_word hr (by decide) rfl (pa_cons (pv 0) pa_nil)))
    (pss_one (ps_ret (pe_and (pe_cmpR op_ne (pv 0) pe_str (nomark _)) (pe_one (pe_callB (cr_all rfl) (by rfl) hB.all (by decide +kernel) (pa_cons (pe_lc (own := [("at", 1)]) (g := gName 1) (by rfl) sc_is_lyndon.nd (pi_range2 (by rfl) hB.range (pa_cons pe_int (pa_cons (pe_callB cl_lenS (by rfl) hB.len PySem.boot_len (pa_cons (pv 0) pa_nil)) pa_nil))) (blkOk_by (own := [("at", 1)]) (N := ["word", "at"]) (sc := defScope s_is_lyndon) (by decide +kernel)) (fun _ _ _ _ _ => pg_name (i := 1) sc_is_lyndon.nd rfl (Or.inl rfl)) (fun _ _ _ _ _ => pts_nil) (fun _ _ _ _ _ => (pe_cmpR op_ltS (pv 0) (pe_slice sl_str (pv 0) (po_some (pv 1)) po_none) (nomark _)))) pa_nil)))))))

abbrev s_lyndon_factors : Stmt := topS 9
theorem sc_lyndon_factors : FnScope ["word", "found", "start", "other", "here"] ["word"] (defScope s_lyndon_factors) := ⟨rfl, rfl, rfl, by decide +kernel, rfl, by decide +kernel, by decide +kernel⟩
theorem ok_lyndon_factors {f : Addr} {fd : FuncData} (F : Fun K "lyndon_factors" "lyndon_factors" s_lyndon_factors f fd) (hB : Blt mg)  (d_check_word : Df P w K mg base 2 "check_word" ["word"] (spD 1 rCheckWord)) : FnOk P w K mg base CX0 3 f fd ["word"] (spD 1 rLynF) := by
  refine okD F sc_lyndon_factors (by decide) rfl (fun cdv A outer s H E hr => ?_) (w_lyndon_factors (K := K))
  exact (pss_cons (ps_expr (pe_d d_check_word hr (by decide) rfl (pa_cons (pv 0) pa_nil)))
    (pss_cons (ps_set (i := 1) sc_lyndon_factors.nd rfl (by first | exact Or.inl rfl | exact Or.inr rfl) (pe_lst pa_nil))
    (pss_cons (ps_set (i := 2) sc_lyndon_factors.nd rfl (by first | exact Or.inl rfl | exact Or.inr rfl) pe_int)
    (pss_cons (ps_while PassesOwn.never (pt_cmpR op_lt (pv 2) (pe_callB cl_lenS (by rfl) hB.len PySem.boot_len (pa_cons (pv 0) pa_nil)) (nomark _)) (pss_cons (ps_set (i := 3) sc_lyndon_factors.nd rfl (by first | exact Or.inl rfl | exact Or.inr rfl) (pe_op op_add (pv 2) pe_int))
    (pss_cons (ps_set (i := 4) sc_lyndon_factors.nd rfl (by first | exact Or.inl rfl | exact Or.inr rfl) (pv 2))
    (pss_cons (ps_while PassesOwn.never (PW.pt (pw_and (pt_cmpR op_lt (pv 3) (pe_callB cl_lenS (by rfl) hB.len PySem.boot_len (pa_cons (pv 0) pa_nil)) (nomark _)) (pw_and1 (pt_cmpR op_leS (pe_ix ix_str (pv 0) (pv 4) (fun _ _ => rfl)) (pe_ix ix_str (pv 0) (pv 3) (fun _ _ => rfl)) (nomark _))))) (pss_cons (ps_set (i := 4) sc_lyndon_factors.nd rfl (by first | exact Or.inl rfl | exact Or.inr rfl) (pe_ifExp (pt_cmpR op_ltS (pe_ix ix_str (pv 0) (pv 4) (fun _ _ => rfl)) (pe_ix ix_str (pv 0) (pv 3) (fun _ _ => rfl)) (nomark _)) (pv 2) (pe_op op_add (pv 4) pe_int)))
    (pss_one (ps_aug (i := 3) sc_lyndon_factors.nd rfl (by first | exact Or.inl rfl | exact Or.inr rfl) pe_int ip_add))))
    (pss_one (ps_while PassesOwn.never (pt_cmpR op_le (pv 2) (pv 4) (nomark _)) (pss_cons (ps_expr (pe_bm PySem.F.plainAttrs_list PySem.F.slot_list_append PySem.F.type_list_append mt_append (pv 1) (pa_cons (pe_slice sl_str (pv 0) (po_some (pv 2)) (po_some (pe_op op_sub (pe_op op_add (pv 2) (pv 3)) (pv 4)))) pa_nil)))
    (pss_one (ps_set (i := 2) sc_lyndon_factors.nd rfl (by first | exact Or.inl rfl | exact Or.inr rfl) (pe_op op_sub (pe_op op_add (pv 2) (pv 3)) (pv 4)))))))))))
    (pss_one (ps_ret (pv 1)))))))

abbrev s_standard_factors : Stmt := topS 10
theorem sc_standard_factors : FnScope ["word", "at"] ["word"] (defScope s_standard_factors) := ⟨rfl, rfl, rfl, by decide +kernel, rfl, by decide +kernel, by decide +kernel⟩
theorem ok_standard_factors {f : Addr} {fd : FuncData} (F : Fun K "standard_factors" "standard_factors" s_standard_factors f fd) (hB : Blt mg)  (d_is_lyndon : Df P w K mg base 3 "is_lyndon" ["word"] (spD 1 rIsLyn)) : FnOk P w K mg base CX0 4 f fd ["word"] (spD 1 rStd) := by
  refine okD F sc_standard_factors (by decide) rfl (fun cdv A outer s H E hr => ?_) (w_standard_factors (K := K))
  exact (pss_cons (ps_if (PW.pt (pw_or (pt_not (pt_val (pe_d d_is_lyndon hr (by decide) rfl (pa_cons (pv 0) pa_nil)))) (pw_or1 (pt_cmpR op_lt (pe_callB cl_lenS (by rfl) hB.len PySem.boot_len (pa_cons (pv 0) pa_nil)) pe_int (nomark _))))) (pss_one ps_never) pss_nil)
    (pss_cons (ps_for PassesOwn.never rfl (pi_range2 (by rfl) hB.range (pa_cons pe_int (pa_cons (pe_callB cl_lenS (by rfl) hB.len PySem.boot_len (pa_cons (pv 0) pa_nil)) pa_nil))) (pg_name (i := 1) sc_standard_factors.nd rfl (by first | exact Or.inl rfl | exact Or.inr rfl)) (pss_one (ps_if (pt_val (pe_d d_is_lyndon hr (by decide) rfl (pa_cons (pe_slice sl_str (pv 0) (po_some (pv 1)) po_none) pa_nil))) (pss_one (ps_ret (pe_tup (pa_cons (pe_slice sl_str (pv 0) po_none (po_some (pv 1))) (pa_cons (pe_slice sl_str (pv 0) (po_some (pv 1)) po_none) pa_nil))))) pss_nil)))
    (pss_one (ps_ret pe_non))))

abbrev s_law_deck : Stmt := topS 12
theorem sc_law_deck : FnScope ["script", "cells", "each", "deck", "seed", "k", "cell", "rest", "at"] ["script", "cells", "each"] (defScope s_law_deck) := ⟨rfl, rfl, rfl, by decide +kernel, rfl, by decide +kernel, by decide +kernel⟩
theorem ok_law_deck {f : Addr} {fd : FuncData} (F : Fun K "_law_deck" "_law_deck" s_law_deck f fd) (hB : Blt mg)   : FnOk P w K mg base CX0 1 f fd ["script", "cells", "each"] (spDeck K) := by
  refine deck_of (x := "_law_deck") (okDeck F sc_law_deck (by decide) (fun cdv A outer s H E hr => ?_) (w_law_deck (K := K)))
  exact (pss_cons (ps_set (i := 3) sc_law_deck.nd rfl (by first | exact Or.inl rfl | exact Or.inr rfl) (pe_lst pa_nil))
    (pss_cons (ps_set (i := 4) sc_law_deck.nd rfl (by first | exact Or.inl rfl | exact Or.inr rfl) (pe_op op_add pe_int (pe_callB cl_lenL (by rfl) hB.len PySem.boot_len (pa_cons (pv 0) pa_nil))))
    (pss_cons (ps_for PassesOwn.never rfl (pi_range1 (by rfl) hB.range (pa_cons (pv 1) pa_nil)) (pg_name (i := 5) sc_law_deck.nd rfl (by first | exact Or.inl rfl | exact Or.inr rfl)) (pss_cons (ps_set (i := 6) sc_law_deck.nd rfl (by first | exact Or.inl rfl | exact Or.inr rfl) pe_int)
    (pss_cons (ps_if (pt_cmpR op_lt (pv 5) (pe_callB cl_lenL (by rfl) hB.len PySem.boot_len (pa_cons (pv 0) pa_nil)) (nomark _)) (pss_one (ps_set (i := 6) sc_law_deck.nd rfl (by first | exact Or.inl rfl | exact Or.inr rfl) (pe_ix ix_list (pv 0) (pv 5) (fun _ _ => rfl)))) pss_nil)
    (pss_cons (ps_set (i := 7) sc_law_deck.nd rfl (by first | exact Or.inl rfl | exact Or.inr rfl) (pe_callB cl_abs (by rfl) hB.abs (by decide +kernel) (pa_cons (pv 6) pa_nil)))
    (pss_one (ps_if (pt_cmpR op_ge (pv 7) (pe_op op_pow pe_int pe_int) (nomark _)) (pss_one (ps_for PassesOwn.never rfl (pi_range1 (by rfl) hB.range (pa_cons (pv 2) pa_nil)) (pg_name (i := 8) sc_law_deck.nd rfl (by first | exact Or.inl rfl | exact Or.inr rfl)) (pss_cons (ps_expr (pe_bm PySem.F.plainAttrs_list PySem.F.slot_list_append PySem.F.type_list_append mt_append (pv 3) (pa_cons (pe_op op_mod (pe_callTy cl_int1 (by rfl) hB.int (by decide +kernel) (pa_cons (pv 7) pa_nil)) pe_int) pa_nil)))
    (pss_one (ps_set (i := 7) sc_law_deck.nd rfl (by first | exact Or.inl rfl | exact Or.inr rfl) (pe_op op_fdiv (pv 7) pe_int)))))) (pss_cons (ps_set (i := 4) sc_law_deck.nd rfl (by first | exact Or.inl rfl | exact Or.inr rfl) (pe_op op_mod (pe_callTy cl_int1 (by rfl) hB.int (by decide +kernel) (pa_cons (pe_op op_add (pe_op op_add (pe_op op_add (pe_op op_mul (pv 4) pe_int) (pe_op op_mul pe_int (pv 7))) (pe_op op_mul pe_int (pe_callTy cl_int1 (by rfl) hB.int (by decide +kernel) (pa_cons (pe_cmpR op_lt (pv 6) pe_int (nomark _)) pa_nil)))) (pv 5)) pa_nil)) pe_int))
    (pss_one (ps_for PassesOwn.never rfl (pi_range1 (by rfl) hB.range (pa_cons (pv 2) pa_nil)) (pg_name (i := 8) sc_law_deck.nd rfl (by first | exact Or.inl rfl | exact Or.inr rfl)) (pss_cons (ps_set (i := 4) sc_law_deck.nd rfl (by first | exact Or.inl rfl | exact Or.inr rfl) (pe_op op_mod (pe_callTy cl_int1 (by rfl) hB.int (by decide +kernel) (pa_cons (pe_op op_add (pe_op op_add (pe_op op_mul (pv 4) pe_int) (pv 8)) pe_int) pa_nil)) pe_int))
    (pss_one (ps_expr (pe_bm PySem.F.plainAttrs_list PySem.F.slot_list_append PySem.F.type_list_append mt_append (pv 3) (pa_cons (pe_op op_mod (pe_callTy cl_int1 (by rfl) hB.int (by decide +kernel) (pa_cons (pe_op op_fdiv (pv 4) pe_int) pa_nil)) pe_int) pa_nil))))))))))))))
    (pss_cons (ps_expr (pe_bm0 PySem.F.plainAttrs_list PySem.F.slot_list_reverse PySem.F.type_list_reverse mt_reverse (pv 3)))
    (pss_one (ps_ret (pv 3)))))))

abbrev s_law_take : Stmt := topS 13
theorem sc_law_take : FnScope ["deck", "many"] ["deck", "many"] (defScope s_law_take) := ⟨rfl, rfl, rfl, by decide +kernel, rfl, by decide +kernel, by decide +kernel⟩
theorem ok_law_take {f : Addr} {fd : FuncData} (F : Fun K "_law_take" "_law_take" s_law_take f fd) (hB : Blt mg)   : FnOk P w K mg base CX0 1 f fd ["deck", "many"] (spD 2 rTake) := by
  refine take_of rfl (okTake F sc_law_take (by decide) (fun cdv A outer s H E hr => ?_) (w_law_take (K := K)))
  exact (pss_cons (ps_if (pt_cmpR op_eq (pe_callB cl_lenL (by rfl) hB.len PySem.boot_len (pa_cons (pv 0) pa_nil)) pe_int (nomark _)) (pss_one (ps_ret pe_int)) pss_nil)
    (pss_one (ps_ret (pe_op op_mod (pe_callTy cl_int1 (by rfl) hB.int (by decide +kernel) (pa_cons (pe_bm0 PySem.F.plainAttrs_list PySem.F.slot_list_pop PySem.F.type_list_pop mt_pop (pv 0)) pa_nil)) (pv 1)))))

abbrev s_law_same : Stmt := topS 15
theorem sc_law_same : FnScope ["told", "due"] ["told", "due"] (defScope s_law_same) := ⟨rfl, rfl, rfl, by decide +kernel, rfl, by decide +kernel, by decide +kernel⟩
theorem ok_law_same {f : Addr} {fd : FuncData} (F : Fun K "_law_same" "_law_same" s_law_same f fd)  (d_law_plain : Df P w K mg base 4 "_law_plain" ["value"] (spD 1 (rPlain 4))) : FnOk P w K mg base CX0 5 f fd ["told", "due"] (spD 2 rSame) := by
  refine okD F sc_law_same (by decide) rfl (fun cdv A outer s H E hr => ?_) (w_law_same (K := K))
  exact (pss_one (ps_ret (pe_cmpR (op_eqD hr.units) (pe_d d_law_plain hr (by decide) rfl (pa_cons (pv 0) pa_nil)) (pe_d d_law_plain hr (by decide) rfl (pa_cons (pv 1) pa_nil)) (nomark _))))

abbrev s_law_word : Stmt := topS 16
theorem sc_law_word : FnScope ["deck", "letters", "most", "found", "rest", "turn"] ["deck", "letters", "most"] (defScope s_law_word) := ⟨rfl, rfl, rfl, by decide +kernel, rfl, by decide +kernel, by decide +kernel⟩
theorem ok_law_word {f : Addr} {fd : FuncData} (F : Fun K "_law_word" "_law_word" s_law_word f fd) (hB : Blt mg)  (d_law_take : Df P w K mg base 1 "_law_take" ["deck", "many"] (spD 2 rTake)) : FnOk P w K mg base CX0 2 f fd ["deck", "letters", "most"] (spD 3 rWord) := by
  refine okD F sc_law_word (by decide) rfl (fun cdv A outer s H E hr => ?_) (w_law_word (K := K))
  exact (pss_cons (ps_set (i := 3) sc_law_word.nd rfl (by first | exact Or.inl rfl | exact Or.inr rfl) pe_str)
    (pss_cons (ps_set (i := 4) sc_law_word.nd rfl (by first | exact Or.inl rfl | exact Or.inr rfl) pe_int)
    (pss_cons (ps_for PassesOwn.never rfl (pi_range1 (by rfl) hB.range (pa_cons (pe_d d_law_take hr (by decide) rfl (pa_cons (pv 0) (pa_cons (pe_op op_add (pv 2) pe_int) pa_nil))) pa_nil)) (pg_name (i := 5) sc_law_word.nd rfl (by first | exact Or.inl rfl | exact Or.inr rfl)) (pss_cons (ps_if (pt_cmpR op_eq (pe_op op_mod (pe_callTy cl_int1 (by rfl) hB.int (by decide +kernel) (pa_cons (pv 5) pa_nil)) pe_int) pe_int (nomark _)) (pss_one (ps_set (i := 4) sc_law_word.nd rfl (by first | exact Or.inl rfl | exact Or.inr rfl) (pe_d d_law_take hr (by decide) rfl (pa_cons (pv 0) (pa_cons pe_int pa_nil))))) pss_nil)
    (pss_cons (ps_set (i := 3) sc_law_word.nd rfl (by first | exact Or.inl rfl | exact Or.inr rfl) (pe_op op_addS (pv 3) (pe_ix ix_str (pv 1) (pe_op op_mod (pe_callTy cl_int1 (by rfl) hB.int (by decide +kernel) (pa_cons (pv 4) pa_nil)) (pe_callB cl_lenS (by rfl) hB.len PySem.boot_len (pa_cons (pv 1) pa_nil))) (fun _ _ => rfl))))
    (pss_one (ps_set (i := 4) sc_law_word.nd rfl (by first | exact Or.inl rfl | exact Or.inr rfl) (pe_op op_fdiv (pv 4) (pe_callB cl_lenS (by rfl) hB.len PySem.boot_len (pa_cons (pv 1) pa_nil))))))))
    (pss_one (ps_ret (pv 3))))))

abbrev s_law_long : Stmt := topS 17
theorem sc_law_long : FnScope ["deck", "letters", "most", "found", "turn", "way", "piece"] ["deck", "letters", "most"] (defScope s_law_long) := ⟨rfl, rfl, rfl, by decide +kernel, rfl, by decide +kernel, by decide +kernel⟩
theorem ok_law_long {f : Addr} {fd : FuncData} (F : Fun K "_law_long" "_law_long" s_law_long f fd) (hB : Blt mg)  (d_law_word : Df P w K mg base 2 "_law_word" ["deck", "letters", "most"] (spD 3 rWord)) (d_law_take : Df P w K mg base 1 "_law_take" ["deck", "many"] (spD 2 rTake)) : FnOk P w K mg base CX0 3 f fd ["deck", "letters", "most"] (spD 3 rLong) := by
  refine okD F sc_law_long (by decide) rfl (fun cdv A outer s H E hr => ?_) (w_law_long (K := K))
  exact (pss_cons (ps_set (i := 3) sc_law_long.nd rfl (by first | exact Or.inl rfl | exact Or.inr rfl) (pe_d d_law_word hr (by decide) rfl (pa_cons (pv 0) (pa_cons (pv 1) (pa_cons pe_int pa_nil)))))
    (pss_cons (ps_for PassesOwn.never rfl (pi_range1 (by rfl) hB.range (pa_cons (pe_op op_add pe_int (pe_d d_law_take hr (by decide) rfl (pa_cons (pv 0) (pa_cons pe_int pa_nil)))) pa_nil)) (pg_name (i := 4) sc_law_long.nd rfl (by first | exact Or.inl rfl | exact Or.inr rfl)) (pss_cons (ps_set (i := 5) sc_law_long.nd rfl (by first | exact Or.inl rfl | exact Or.inr rfl) (pe_d d_law_take hr (by decide) rfl (pa_cons (pv 0) (pa_cons pe_int pa_nil))))
    (pss_cons (ps_set (i := 6) sc_law_long.nd rfl (by first | exact Or.inl rfl | exact Or.inr rfl) (pe_d d_law_word hr (by decide) rfl (pa_cons (pv 0) (pa_cons (pv 1) (pa_cons pe_int pa_nil)))))
    (pss_cons (ps_if (pt_cmpR op_eq (pv 5) pe_int (nomark _)) (pss_one (ps_set (i := 3) sc_law_long.nd rfl (by first | exact Or.inl rfl | exact Or.inr rfl) (pe_op op_addS (pv 3) (pe_op op_mulS (pv 6) (pe_op op_add pe_int (pe_d d_law_take hr (by decide) rfl (pa_cons (pv 0) (pa_cons pe_int pa_nil)))))))) (pss_one (ps_if (pt_cmpR op_eq (pv 5) pe_int (nomark _)) (pss_one (ps_set (i := 3) sc_law_long.nd rfl (by first | exact Or.inl rfl | exact Or.inr rfl) (pe_op op_addS (pe_op op_addS (pv 3) (pv 6)) (pv 3)))) (pss_one (ps_if (pt_cmpR op_eq (pv 5) pe_int (nomark _)) (pss_one (ps_set (i := 3) sc_law_long.nd rfl (by first | exact Or.inl rfl | exact Or.inr rfl) (pe_op op_addS (pe_op op_addS (pv 3) (pv 3)) (pv 6)))) (pss_one (ps_if (pt_cmpR op_eq (pv 5) pe_int (nomark _)) (pss_one (ps_set (i := 3) sc_law_long.nd rfl (by first | exact Or.inl rfl | exact Or.inr rfl) (pe_op op_addS (pv 3) (pe_revS (pv 3))))) (pss_one (ps_set (i := 3) sc_law_long.nd rfl (by first | exact Or.inl rfl | exact Or.inr rfl) (pe_op op_addS (pv 6) (pv 3)))))))))))
    (pss_one (ps_set (i := 3) sc_law_long.nd rfl (by first | exact Or.inl rfl | exact Or.inr rfl) (pe_slice sl_str (pv 3) po_none (po_some (pv 2)))))))))
    (pss_one (ps_ret (pv 3)))))

abbrev s_law_is_lyndon : Stmt := topS 18
theorem sc_law_is_lyndon : FnScope ["word", "at"] ["word"] (defScope s_law_is_lyndon) := ⟨rfl, rfl, rfl, by decide +kernel, rfl, by decide +kernel, by decide +kernel⟩
theorem ok_law_is_lyndon {f : Addr} {fd : FuncData} (F : Fun K "_law_is_lyndon" "_law_is_lyndon" s_law_is_lyndon f fd) (hB : Blt mg)   : FnOk P w K mg base CX0 1 f fd ["word"] (spD 1 rLawLyn) := by
  refine okD F sc_law_is_lyndon (by decide) rfl (fun cdv A outer s H E hr => ?_) (w_law_is_lyndon (K := K))
  exact (pss_cons (ps_for PassesOwn.never rfl (pi_range2 (by rfl) hB.range (pa_cons pe_int (pa_cons (pe_callB cl_lenS (by rfl) hB.len PySem.boot_len (pa_cons (pv 0) pa_nil)) pa_nil))) (pg_name (i := 1) sc_law_is_lyndon.nd rfl (by first | exact Or.inl rfl | exact Or.inr rfl)) (pss_one (ps_if (pt_cmpR op_leS (pe_slice sl_str (pv 0) (po_some (pv 1)) po_none) (pv 0) (nomark _)) (pss_one (ps_ret pe_bl)) pss_nil)))
    (pss_one (ps_ret (pe_cmpR op_ne (pv 0) pe_str (nomark _)))))

abbrev s_law_longest : Stmt := topS 19
theorem sc_law_longest : FnScope ["word", "found", "size"] ["word"] (defScope s_law_longest) := ⟨rfl, rfl, rfl, by decide +kernel, rfl, by decide +kernel, by decide +kernel⟩
theorem ok_law_longest {f : Addr} {fd : FuncData} (F : Fun K "_law_longest" "_law_longest" s_law_longest f fd) (hB : Blt mg)  (d_law_is_lyndon : Df P w K mg base 1 "_law_is_lyndon" ["word"] (spD 1 rLawLyn)) : FnOk P w K mg base CX0 2 f fd ["word"] (spD 1 rLongest) := by
  refine okD F sc_law_longest (by decide) rfl (fun cdv A outer s H E hr => ?_) (w_law_longest (K := K))
  exact (pss_cons (ps_set (i := 1) sc_law_longest.nd rfl (by first | exact Or.inl rfl | exact Or.inr rfl) pe_str)
    (pss_cons (ps_for PassesOwn.never rfl (pi_range2 (by rfl) hB.range (pa_cons pe_int (pa_cons (pe_op op_add (pe_callB cl_lenS (by rfl) hB.len PySem.boot_len (pa_cons (pv 0) pa_nil)) pe_int) pa_nil))) (pg_name (i := 2) sc_law_longest.nd rfl (by first | exact Or.inl rfl | exact Or.inr rfl)) (pss_one (ps_if (pt_val (pe_d d_law_is_lyndon hr (by decide) rfl (pa_cons (pe_slice sl_str (pv 0) po_none (po_some (pv 2))) pa_nil))) (pss_one (ps_set (i := 1) sc_law_longest.nd rfl (by first | exact Or.inl rfl | exact Or.inr rfl) (pe_slice sl_str (pv 0) po_none (po_some (pv 2))))) pss_nil)))
    (pss_one (ps_ret (pv 1)))))

abbrev s_law : Stmt := topS 20
theorem sc_law : FnScope ["script", "deck", "letters", "turn", "word", "told", "at", "size", "least", "sizes", "cut", "one"] ["script"] (defScope s_law) := ⟨rfl, rfl, rfl, by decide +kernel, rfl, by decide +kernel, by decide +kernel⟩
theorem ok_law {f : Addr} {fd : FuncData} (F : Fun K "law" "law" s_law f fd) (hB : Blt mg)  (d_law_deck : Df P w K mg base 1 "_law_deck" ["script", "cells", "each"] (spDeck K)) (d_law_take : Df P w K mg base 1 "_law_take" ["deck", "many"] (spD 2 rTake)) (d_law_long : Df P w K mg base 3 "_law_long" ["deck", "letters", "most"] (spD 3 rLong)) (d_lyndon_factors : Df P w K mg base 3 "lyndon_factors" ["word"] (spD 1 rLynF)) (d_law_same : Df P w K mg base 5 "_law_same" ["told", "due"] (spD 2 rSame)) (d_law_is_lyndon : Df P w K mg base 1 "_law_is_lyndon" ["word"] (spD 1 rLawLyn)) (d_standard_factors : Df P w K mg base 4 "standard_factors" ["word"] (spD 1 rStd)) (d_law_longest : Df P w K mg base 2 "_law_longest" ["word"] (spD 1 rLongest)) (d_is_lyndon : Df P w K mg base 3 "is_lyndon" ["word"] (spD 1 rIsLyn)) (d_least_conjugate : Df P w K mg base 3 "least_conjugate" ["word"] (spD 1 rLeastC)) : FnOk P w K mg base CX0 6 f fd ["script"] (spLaw K) := by
  refine okLaw F sc_law (by decide) (fun cdv A outer s H E hr => ?_) (w_law (K := K))
  exact (pss_cons (ps_set (i := 1) sc_law.nd rfl (by first | exact Or.inl rfl | exact Or.inr rfl) (pe_d d_law_deck hr (by decide) rfl (pa_cons (pv 0) (pa_cons pe_int (pa_cons pe_int pa_nil)))))
    (pss_cons (ps_set (i := 2) sc_law.nd rfl (by first | exact Or.inl rfl | exact Or.inr rfl) (pe_ix ix_list (pe_lst (pa_cons pe_str (pa_cons pe_str (pa_cons pe_str pa_nil)))) (pe_d d_law_take hr (by decide) rfl (pa_cons (pv 1) (pa_cons pe_int pa_nil))) (fun _ _ => rfl)))
    (pss_cons (ps_for PassesOwn.never rfl (pi_range1 (by rfl) hB.range (pa_cons pe_int pa_nil)) (pg_name (i := 3) sc_law.nd rfl (by first | exact Or.inl rfl | exact Or.inr rfl)) (pss_cons (ps_set (i := 4) sc_law.nd rfl (by first | exact Or.inl rfl | exact Or.inr rfl) (pe_d d_law_long hr (by decide) rfl (pa_cons (pv 1) (pa_cons (pv 2) (pa_cons pe_int pa_nil)))))
    (pss_cons (ps_set (i := 5) sc_law.nd rfl (by first | exact Or.inl rfl | exact Or.inr rfl) (pe_d d_lyndon_factors hr (by decide) rfl (pa_cons (pv 4) pa_nil)))
    (pss_cons (ps_if (PW.pt (pw_or (pt_not (pt_val (pe_d d_law_same hr (by decide) rfl (pa_cons (pv 5) (pa_cons (pe_lc (own := [("one", 11)]) (g := gName 11) (by rfl) sc_law.nd (pi_list (pv 5)) (blkOk_by (own := [("one", 11)]) (N := ["script", "deck", "letters", "turn", "word", "told", "at", "size", "least", "sizes", "cut", "one"]) (sc := defScope s_law) (by decide +kernel)) (fun _ _ _ _ _ => pg_name (i := 11) sc_law.nd rfl (Or.inl rfl)) (fun _ _ _ _ _ => pts_nil) (fun _ _ _ _ _ => (pe_callTy cl_strS (by rfl) hB.str (by decide +kernel) (pa_cons (pv 11) pa_nil)))) pa_nil))))) (pw_or1 (pt_cmpR op_ne (pe_bm PySem.F.plainAttrs_str PySem.F.slot_str_join PySem.F.type_str_join mt_joinD pe_str (pa_cons (pv 5) pa_nil)) (pv 4) (nomark _))))) (pss_one (ps_ret pe_bl)) pss_nil)
    (pss_cons (ps_for PassesOwn.never rfl (pi_range1 (by rfl) hB.range (pa_cons (pe_callB cl_lenL (by rfl) hB.len PySem.boot_len (pa_cons (pv 5) pa_nil)) pa_nil)) (pg_name (i := 6) sc_law.nd rfl (by first | exact Or.inl rfl | exact Or.inr rfl)) (pss_cons (ps_if (PW.pt (pw_or (pt_not (pt_val (pe_d d_law_is_lyndon hr (by decide) rfl (pa_cons (pe_ix ix_list (pv 5) (pv 6) (fun _ _ => rfl)) pa_nil)))) (pw_or1 (PW.pt (pw_and (pt_cmpR op_gt (pv 6) pe_int (nomark _)) (pw_and1 (pt_cmpR op_ltS (pe_ix ix_list (pv 5) (pe_op op_sub (pv 6) pe_int) (fun _ _ => rfl)) (pe_ix ix_list (pv 5) (pv 6) (fun _ _ => rfl)) (nomark _)))))))) (pss_one (ps_ret pe_bl)) pss_nil)
    (pss_one (ps_if (pt_cmpR op_gt (pe_callB cl_lenS (by rfl) hB.len PySem.boot_len (pa_cons (pe_ix ix_list (pv 5) (pv 6) (fun _ _ => rfl)) pa_nil)) pe_int (nomark _)) (pss_cons (ps_set (i := 10) sc_law.nd rfl (by first | exact Or.inl rfl | exact Or.inr rfl) (pe_ix ix_list (pe_lc (own := [("size", 7)]) (g := gName 7) (by rfl) sc_law.nd (pi_range2 (by rfl) hB.range (pa_cons pe_int (pa_cons (pe_callB cl_lenS (by rfl) hB.len PySem.boot_len (pa_cons (pe_ix ix_list (pv 5) (pv 6) (fun _ _ => rfl)) pa_nil)) pa_nil))) (blkOk_by (own := [("size", 7)]) (N := ["script", "deck", "letters", "turn", "word", "told", "at", "size", "least", "sizes", "cut", "one"]) (sc := defScope s_law) (by decide +kernel)) (fun _ _ _ _ _ => pg_name (i := 7) sc_law.nd rfl (Or.inl rfl)) (fun _ _ _ _ _ => (pts_one (pt_val (pe_d d_law_is_lyndon hr (by decide) rfl (pa_cons (pe_slice sl_str (pe_ix ix_list (pv 5) (pv 6) (fun _ _ => rfl)) (po_some (pv 7)) po_none) pa_nil))))) (fun _ _ _ _ _ => (pv 7))) pe_int (fun _ _ => rfl)))
    (pss_one (ps_if (pt_not (pt_val (pe_d d_law_same hr (by decide) rfl (pa_cons (pe_d d_standard_factors hr (by decide) rfl (pa_cons (pe_ix ix_list (pv 5) (pv 6) (fun _ _ => rfl)) pa_nil)) (pa_cons (pe_tup (pa_cons (pe_slice sl_str (pe_ix ix_list (pv 5) (pv 6) (fun _ _ => rfl)) po_none (po_some (pv 10))) (pa_cons (pe_slice sl_str (pe_ix ix_list (pv 5) (pv 6) (fun _ _ => rfl)) (po_some (pv 10)) po_none) pa_nil))) pa_nil))))) (pss_one (ps_ret pe_bl)) pss_nil))) pss_nil))))
    (pss_cons (ps_if (pt_cmpR op_ne (pv 4) pe_str (nomark _)) (pss_one (ps_if (PW.pt (pw_or (pt_cmpR op_ne (pe_ix ix_list (pv 5) pe_int (fun _ _ => rfl)) (pe_d d_law_longest hr (by decide) rfl (pa_cons (pv 4) pa_nil)) (nomark _)) (pw_or1 (pt_cmpR op_ne (pe_ix ix_list (pv 5) (pe_op op_sub (pe_callB cl_lenL (by rfl) hB.len PySem.boot_len (pa_cons (pv 5) pa_nil)) pe_int) (fun _ _ => rfl)) (pe_callB (cr_minS rfl) (by rfl) hB.min (by decide +kernel) (pa_cons (pe_lc (own := [("at", 6)]) (g := gName 6) (by rfl) sc_law.nd (pi_range1 (by rfl) hB.range (pa_cons (pe_callB cl_lenS (by rfl) hB.len PySem.boot_len (pa_cons (pv 4) pa_nil)) pa_nil)) (blkOk_by (own := [("at", 6)]) (N := ["script", "deck", "letters", "turn", "word", "told", "at", "size", "least", "sizes", "cut", "one"]) (sc := defScope s_law) (by decide +kernel)) (fun _ _ _ _ _ => pg_name (i := 6) sc_law.nd rfl (Or.inl rfl)) (fun _ _ _ _ _ => pts_nil) (fun _ _ _ _ _ => (pe_slice sl_str (pv 4) (po_some (pv 6)) po_none))) pa_nil)) (nomark _))))) (pss_one (ps_ret pe_bl)) pss_nil)) pss_nil)
    (pss_cons (ps_for PassesOwn.never rfl (pi_range1 (by rfl) hB.range (pa_cons (pe_op op_add (pe_callB (cl_min2 rfl) (by rfl) hB.min (by decide +kernel) (pa_cons (pe_callB cl_lenS (by rfl) hB.len PySem.boot_len (pa_cons (pv 4) pa_nil)) (pa_cons pe_int pa_nil))) pe_int) pa_nil)) (pg_name (i := 7) sc_law.nd rfl (by first | exact Or.inl rfl | exact Or.inr rfl)) (pss_one (ps_if (pt_not (pt_val (pe_d d_law_same hr (by decide) rfl (pa_cons (pe_d d_is_lyndon hr (by decide) rfl (pa_cons (pe_slice sl_str (pv 4) po_none (po_some (pv 7))) pa_nil)) (pa_cons (pe_d d_law_is_lyndon hr (by decide) rfl (pa_cons (pe_slice sl_str (pv 4) po_none (po_some (pv 7))) pa_nil)) pa_nil))))) (pss_one (ps_ret pe_bl)) pss_nil)))
    (pss_cons (ps_set (i := 8) sc_law.nd rfl (by first | exact Or.inl rfl | exact Or.inr rfl) (pe_callB (cr_minS rfl) (by rfl) hB.min (by decide +kernel) (pa_cons (pe_lc (own := [("at", 6)]) (g := gName 6) (by rfl) sc_law.nd (pi_range1 (by rfl) hB.range (pa_cons (pe_callB (cl_max2 rfl) (by rfl) hB.max (by decide +kernel) (pa_cons pe_int (pa_cons (pe_callB cl_lenS (by rfl) hB.len PySem.boot_len (pa_cons (pv 4) pa_nil)) pa_nil))) pa_nil)) (blkOk_by (own := [("at", 6)]) (N := ["script", "deck", "letters", "turn", "word", "told", "at", "size", "least", "sizes", "cut", "one"]) (sc := defScope s_law) (by decide +kernel)) (fun _ _ _ _ _ => pg_name (i := 6) sc_law.nd rfl (Or.inl rfl)) (fun _ _ _ _ _ => pts_nil) (fun _ _ _ _ _ => (pe_op op_addS (pe_slice sl_str (pv 4) (po_some (pv 6)) po_none) (pe_slice sl_str (pv 4) po_none (po_some (pv 6)))))) pa_nil)))
    (pss_cons (ps_if (pt_not (pt_val (pe_d d_law_same hr (by decide) rfl (pa_cons (pe_d d_least_conjugate hr (by decide) rfl (pa_cons (pv 4) pa_nil)) (pa_cons (pv 8) pa_nil))))) (pss_one (ps_ret pe_bl)) pss_nil)
    (pss_cons (ps_setLc (i := 9) (own := [("size", 7)]) (g := gName 7) (by rfl) sc_law.nd rfl rfl (sw_true rfl rfl rfl (by decide +kernel)) (pi_range2 (by rfl) hB.range (pa_cons pe_int (pa_cons (pe_op op_add (pe_callB cl_lenS (by rfl) hB.len PySem.boot_len (pa_cons (pv 4) pa_nil)) pe_int) pa_nil))) (blkOk_by (own := [("size", 7)]) (N := ["script", "deck", "letters", "turn", "word", "told", "at", "size", "least", "sizes", "cut", "one"]) (sc := defScope s_law) (by decide +kernel)) (fun _ _ _ _ _ => pg_name (i := 7) sc_law.nd rfl (Or.inl rfl)) (fun _ _ _ _ _ => (pts_one (pt_cmpR op_eq (pe_op op_mulS (pe_slice sl_str (pv 4) po_none (po_some (pv 7))) (pe_op op_fdiv (pe_callB cl_lenS (by rfl) hB.len PySem.boot_len (pa_cons (pv 4) pa_nil)) (pv 7))) (pv 4) (nomark _)))) (fun _ _ _ _ _ => (pv 7)))
    (pss_one (ps_if (PW.pt (pw_and (pt_cmpR op_ne (pv 4) pe_str (nomark _)) (pw_and1 (pt_not (pt_val (pe_d d_law_same hr (by decide) rfl (pa_cons (pe_d d_lyndon_factors hr (by decide) rfl (pa_cons (pv 8) pa_nil)) (pa_cons (pe_op op_rep (pe_lst (pa_cons (pe_slice sl_str (pv 8) po_none (po_some (pe_ix ix_list (pv 9) pe_int (fun _ _ => rfl)))) pa_nil)) (pe_op op_fdiv (pe_callB cl_lenS (by rfl) hB.len PySem.boot_len (pa_cons (pv 4) pa_nil)) (pe_ix ix_list (pv 9) pe_int (fun _ _ => rfl)))) pa_nil)))))))) (pss_one (ps_ret pe_bl)) pss_nil))))))))))))
    (pss_one (ps_ret pe_bl)))))

end
theorem all_mk {l : PySem.W.OpenLaw} {w : World} {K : PySem.W.Frag} {h : Heap} {mg : Str → Option Value} {fa f1 f2 f3 f4 f5 f6 f7 f8 f9 f10 f11 f12 f13 f14 f15 : Addr} (X : K.In h) (G : h.Ns mainGlobals mg) (hfa : mg "law" = some (.ref fa))
    {od1 an1 od2 an2 od3 an3 od4 an4 od5 an5 od6 an6 od7 an7 od8 an8 od9 an9 od10 an10 od11 an11 od12 an12 od13 an13 od14 an14 od15 an15 : Option Addr} {sl1 sl2 sl3 sl4 sl5 sl6 sl7 sl8 sl9 sl10 sl11 sl12 sl13 sl14 sl15 : Array (Option Value)} {oc1 kV1 dc1 pm1 cd1 ct1 oc2 kV2 dc2 pm2 cd2 ct2 oc3 kV3 dc3 pm3 cd3 ct3 oc4 kV4 dc4 pm4 cd4 ct4 oc5 kV5 dc5 pm5 cd5 ct5 oc6 kV6 dc6 pm6 cd6 ct6 oc7 kV7 dc7 pm7 cd7 ct7 oc8 kV8 dc8 pm8 cd8 ct8 oc9 kV9 dc9 pm9 cd9 ct9 oc10 kV10 dc10 pm10 cd10 ct10 oc11 kV11 dc11 pm11 cd11 ct11 oc12 kV12 dc12 pm12 cd12 ct12 oc13 kV13 dc13 pm13 cd13 ct13 oc14 kV14 dc14 pm14 cd14 ct14 oc15 kV15 dc15 pm15 cd15 ct15 : Value}
    (a1 : PySem.W.nsIn K mainGlobals "_law_plain" = some (some (.ref f1))) (l1 : K.lookup f1 = some ⟨oc1, od1, .func (PySem.W.fnOf "_law_plain" "_law_plain" (defArgs s_law_plain) (defBody s_law_plain) (defScope s_law_plain) .none kV1 dc1 pm1 an1 cd1 ct1), sl1⟩) (c1 : PySem.W.codeIn K cd1 "_law_plain" = true) (k1 : PySem.W.keepIn K (.ref f1) = true)
    (a2 : PySem.W.nsIn K mainGlobals "is_word" = some (some (.ref f2))) (l2 : K.lookup f2 = some ⟨oc2, od2, .func (PySem.W.fnOf "is_word" "is_word" (defArgs s_is_word) (defBody s_is_word) (defScope s_is_word) .none kV2 dc2 pm2 an2 cd2 ct2), sl2⟩) (c2 : PySem.W.codeIn K cd2 "is_word" = true) (k2 : PySem.W.keepIn K (.ref f2) = true)
    (a3 : PySem.W.nsIn K mainGlobals "check_word" = some (some (.ref f3))) (l3 : K.lookup f3 = some ⟨oc3, od3, .func (PySem.W.fnOf "check_word" "check_word" (defArgs s_check_word) (defBody s_check_word) (defScope s_check_word) .none kV3 dc3 pm3 an3 cd3 ct3), sl3⟩) (c3 : PySem.W.codeIn K cd3 "check_word" = true) (k3 : PySem.W.keepIn K (.ref f3) = true)
    (a4 : PySem.W.nsIn K mainGlobals "least_conjugate" = some (some (.ref f4))) (l4 : K.lookup f4 = some ⟨oc4, od4, .func (PySem.W.fnOf "least_conjugate" "least_conjugate" (defArgs s_least_conjugate) (defBody s_least_conjugate) (defScope s_least_conjugate) .none kV4 dc4 pm4 an4 cd4 ct4), sl4⟩) (c4 : PySem.W.codeIn K cd4 "least_conjugate" = true) (k4 : PySem.W.keepIn K (.ref f4) = true)
    (a5 : PySem.W.nsIn K mainGlobals "is_lyndon" = some (some (.ref f5))) (l5 : K.lookup f5 = some ⟨oc5, od5, .func (PySem.W.fnOf "is_lyndon" "is_lyndon" (defArgs s_is_lyndon) (defBody s_is_lyndon) (defScope s_is_lyndon) .none kV5 dc5 pm5 an5 cd5 ct5), sl5⟩) (c5 : PySem.W.codeIn K cd5 "is_lyndon" = true) (k5 : PySem.W.keepIn K (.ref f5) = true)
    (a6 : PySem.W.nsIn K mainGlobals "lyndon_factors" = some (some (.ref f6))) (l6 : K.lookup f6 = some ⟨oc6, od6, .func (PySem.W.fnOf "lyndon_factors" "lyndon_factors" (defArgs s_lyndon_factors) (defBody s_lyndon_factors) (defScope s_lyndon_factors) .none kV6 dc6 pm6 an6 cd6 ct6), sl6⟩) (c6 : PySem.W.codeIn K cd6 "lyndon_factors" = true) (k6 : PySem.W.keepIn K (.ref f6) = true)
    (a7 : PySem.W.nsIn K mainGlobals "standard_factors" = some (some (.ref f7))) (l7 : K.lookup f7 = some ⟨oc7, od7, .func (PySem.W.fnOf "standard_factors" "standard_factors" (defArgs s_standard_factors) (defBody s_standard_factors) (defScope s_standard_factors) .none kV7 dc7 pm7 an7 cd7 ct7), sl7⟩) (c7 : PySem.W.codeIn K cd7 "standard_factors" = true) (k7 : PySem.W.keepIn K (.ref f7) = true)
    (a8 : PySem.W.nsIn K mainGlobals "_law_deck" = some (some (.ref f8))) (l8 : K.lookup f8 = some ⟨oc8, od8, .func (PySem.W.fnOf "_law_deck" "_law_deck" (defArgs s_law_deck) (defBody s_law_deck) (defScope s_law_deck) .none kV8 dc8 pm8 an8 cd8 ct8), sl8⟩) (c8 : PySem.W.codeIn K cd8 "_law_deck" = true) (k8 : PySem.W.keepIn K (.ref f8) = true)
    (a9 : PySem.W.nsIn K mainGlobals "_law_take" = some (some (.ref f9))) (l9 : K.lookup f9 = some ⟨oc9, od9, .func (PySem.W.fnOf "_law_take" "_law_take" (defArgs s_law_take) (defBody s_law_take) (defScope s_law_take) .none kV9 dc9 pm9 an9 cd9 ct9), sl9⟩) (c9 : PySem.W.codeIn K cd9 "_law_take" = true) (k9 : PySem.W.keepIn K (.ref f9) = true)
    (a10 : PySem.W.nsIn K mainGlobals "_law_same" = some (some (.ref f10))) (l10 : K.lookup f10 = some ⟨oc10, od10, .func (PySem.W.fnOf "_law_same" "_law_same" (defArgs s_law_same) (defBody s_law_same) (defScope s_law_same) .none kV10 dc10 pm10 an10 cd10 ct10), sl10⟩) (c10 : PySem.W.codeIn K cd10 "_law_same" = true) (k10 : PySem.W.keepIn K (.ref f10) = true)
    (a11 : PySem.W.nsIn K mainGlobals "_law_word" = some (some (.ref f11))) (l11 : K.lookup f11 = some ⟨oc11, od11, .func (PySem.W.fnOf "_law_word" "_law_word" (defArgs s_law_word) (defBody s_law_word) (defScope s_law_word) .none kV11 dc11 pm11 an11 cd11 ct11), sl11⟩) (c11 : PySem.W.codeIn K cd11 "_law_word" = true) (k11 : PySem.W.keepIn K (.ref f11) = true)
    (a12 : PySem.W.nsIn K mainGlobals "_law_long" = some (some (.ref f12))) (l12 : K.lookup f12 = some ⟨oc12, od12, .func (PySem.W.fnOf "_law_long" "_law_long" (defArgs s_law_long) (defBody s_law_long) (defScope s_law_long) .none kV12 dc12 pm12 an12 cd12 ct12), sl12⟩) (c12 : PySem.W.codeIn K cd12 "_law_long" = true) (k12 : PySem.W.keepIn K (.ref f12) = true)
    (a13 : PySem.W.nsIn K mainGlobals "_law_is_lyndon" = some (some (.ref f13))) (l13 : K.lookup f13 = some ⟨oc13, od13, .func (PySem.W.fnOf "_law_is_lyndon" "_law_is_lyndon" (defArgs s_law_is_lyndon) (defBody s_law_is_lyndon) (defScope s_law_is_lyndon) .none kV13 dc13 pm13 an13 cd13 ct13), sl13⟩) (c13 : PySem.W.codeIn K cd13 "_law_is_lyndon" = true) (k13 : PySem.W.keepIn K (.ref f13) = true)
    (a14 : PySem.W.nsIn K mainGlobals "_law_longest" = some (some (.ref f14))) (l14 : K.lookup f14 = some ⟨oc14, od14, .func (PySem.W.fnOf "_law_longest" "_law_longest" (defArgs s_law_longest) (defBody s_law_longest) (defScope s_law_longest) .none kV14 dc14 pm14 an14 cd14 ct14), sl14⟩) (c14 : PySem.W.codeIn K cd14 "_law_longest" = true) (k14 : PySem.W.keepIn K (.ref f14) = true)
    (a15 : PySem.W.nsIn K mainGlobals "law" = some (some (.ref f15))) (l15 : K.lookup f15 = some ⟨oc15, od15, .func (PySem.W.fnOf "law" "law" (defArgs s_law) (defBody s_law) (defScope s_law) .none kV15 dc15 pm15 an15 cd15 ct15), sl15⟩) (c15 : PySem.W.codeIn K cd15 "law" = true) (k15 : PySem.W.keepIn K (.ref f15) = true)
    (z1 : PySem.W.nsIn K mainGlobals "list" = some none) (z2 : PySem.W.nsIn K mainGlobals "tuple" = some none) (z3 : PySem.W.nsIn K mainGlobals "isinstance" = some none) (z4 : PySem.W.nsIn K mainGlobals "dict" = some none) (z5 : PySem.W.nsIn K mainGlobals "bool" = some none) (z6 : PySem.W.nsIn K mainGlobals "int" = some none) (z7 : PySem.W.nsIn K mainGlobals "str" = some none) (z8 : PySem.W.nsIn K mainGlobals "all" = some none) (z9 : PySem.W.nsIn K mainGlobals "len" = some none) (z10 : PySem.W.nsIn K mainGlobals "min" = some none) (z11 : PySem.W.nsIn K mainGlobals "range" = some none) (z12 : PySem.W.nsIn K mainGlobals "abs" = some none) (z13 : PySem.W.nsIn K mainGlobals "max" = some none) :
    ∃ fd : FuncData, (∀ (s : Shared) (v : Value), BindsTo s fd ⟨[v], []⟩ [("script", v)]) ∧ ∀ base : Heap, K.In base → base.Ns mainGlobals mg → FnOk l.prog w K mg base CX0 6 fa fd ["script"] (spLaw K) := by
  have e := hfa.symm.trans (PySem.W.mg_of X G a15)
  cases e
  have hB : Blt mg := ⟨PySem.W.mg_none_of X G z1, PySem.W.mg_none_of X G z2, PySem.W.mg_none_of X G z3, PySem.W.mg_none_of X G z4, PySem.W.mg_none_of X G z5, PySem.W.mg_none_of X G z6, PySem.W.mg_none_of X G z7, PySem.W.mg_none_of X G z8, PySem.W.mg_none_of X G z9, PySem.W.mg_none_of X G z10, PySem.W.mg_none_of X G z11, PySem.W.mg_none_of X G z12, PySem.W.mg_none_of X G z13⟩
  have F1 := fun_mk (st := s_law_plain) l1 c1 k1
  have b1 := F1.binds (ps := ["value"]) fun _ _ _ _ _ _ us hl => match us, hl with | [_], _ => rfl
  have F2 := fun_mk (st := s_is_word) l2 c2 k2
  have b2 := F2.binds (ps := ["word"]) fun _ _ _ _ _ _ us hl => match us, hl with | [_], _ => rfl
  have F3 := fun_mk (st := s_check_word) l3 c3 k3
  have b3 := F3.binds (ps := ["word"]) fun _ _ _ _ _ _ us hl => match us, hl with | [_], _ => rfl
  have F4 := fun_mk (st := s_least_conjugate) l4 c4 k4
  have b4 := F4.binds (ps := ["word"]) fun _ _ _ _ _ _ us hl => match us, hl with | [_], _ => rfl
  have F5 := fun_mk (st := s_is_lyndon) l5 c5 k5
  have b5 := F5.binds (ps := ["word"]) fun _ _ _ _ _ _ us hl => match us, hl with | [_], _ => rfl
  have F6 := fun_mk (st := s_lyndon_factors) l6 c6 k6
  have b6 := F6.binds (ps := ["word"]) fun _ _ _ _ _ _ us hl => match us, hl with | [_], _ => rfl
  have F7 := fun_mk (st := s_standard_factors) l7 c7 k7
  have b7 := F7.binds (ps := ["word"]) fun _ _ _ _ _ _ us hl => match us, hl with | [_], _ => rfl
  have F8 := fun_mk (st := s_law_deck) l8 c8 k8
  have b8 := F8.binds (ps := ["script", "cells", "each"]) fun _ _ _ _ _ _ us hl => match us, hl with | [_, _, _], _ => rfl
  have F9 := fun_mk (st := s_law_take) l9 c9 k9
  have b9 := F9.binds (ps := ["deck", "many"]) fun _ _ _ _ _ _ us hl => match us, hl with | [_, _], _ => rfl
  have F10 := fun_mk (st := s_law_same) l10 c10 k10
  have b10 := F10.binds (ps := ["told", "due"]) fun _ _ _ _ _ _ us hl => match us, hl with | [_, _], _ => rfl
  have F11 := fun_mk (st := s_law_word) l11 c11 k11
  have b11 := F11.binds (ps := ["deck", "letters", "most"]) fun _ _ _ _ _ _ us hl => match us, hl with | [_, _, _], _ => rfl
  have F12 := fun_mk (st := s_law_long) l12 c12 k12
  have b12 := F12.binds (ps := ["deck", "letters", "most"]) fun _ _ _ _ _ _ us hl => match us, hl with | [_, _, _], _ => rfl
  have F13 := fun_mk (st := s_law_is_lyndon) l13 c13 k13
  have b13 := F13.binds (ps := ["word"]) fun _ _ _ _ _ _ us hl => match us, hl with | [_], _ => rfl
  have F14 := fun_mk (st := s_law_longest) l14 c14 k14
  have b14 := F14.binds (ps := ["word"]) fun _ _ _ _ _ _ us hl => match us, hl with | [_], _ => rfl
  have F15 := fun_mk (st := s_law) l15 c15 k15
  have b15 := F15.binds (ps := ["script"]) fun _ _ _ _ _ _ us hl => match us, hl with | [_], _ => rfl
  refine ⟨PySem.W.fnOf "law" "law" (defArgs s_law) (defBody s_law) (defScope s_law) .none kV15 dc15 pm15 an15 cd15 ct15, fun s v => .of_eq rfl, fun base _ _ => ?_⟩
  have r1 : ∀ n, Df l.prog w K mg base (n + 0) "_law_plain" ["value"] (spD 1 (rPlain n)) := fun n => by
    induction n with
    | zero => exact Df.mk' ⟨(fun vs H Q E h => absurd h (rPlain_void vs H Q E)), (fun A outer s H args us vs Q E _ _ _ _ h => absurd h (rPlain_void vs H Q E))⟩ (PySem.W.mg_of X G a1) k1 b1
    | succ n ih => exact Df.mk' (ok_law_plain n F1 hB ih) (PySem.W.mg_of X G a1) k1 b1
  have d_law_plain := r1 4
  have d_is_word : Df l.prog w K mg base 1 "is_word" ["word"] (spD 1 rIsWord) := Df.mk' (ok_is_word F2 hB) (PySem.W.mg_of X G a2) k2 b2
  have d_check_word : Df l.prog w K mg base 2 "check_word" ["word"] (spD 1 rCheckWord) := Df.mk' (ok_check_word F3 d_is_word) (PySem.W.mg_of X G a3) k3 b3
  have d_least_conjugate : Df l.prog w K mg base 3 "least_conjugate" ["word"] (spD 1 rLeastC) := Df.mk' (ok_least_conjugate F4 hB d_check_word) (PySem.W.mg_of X G a4) k4 b4
  have d_is_lyndon : Df l.prog w K mg base 3 "is_lyndon" ["word"] (spD 1 rIsLyn) := Df.mk' (ok_is_lyndon F5 hB d_check_word) (PySem.W.mg_of X G a5) k5 b5
  have d_lyndon_factors : Df l.prog w K mg base 3 "lyndon_factors" ["word"] (spD 1 rLynF) := Df.mk' (ok_lyndon_factors F6 hB d_check_word) (PySem.W.mg_of X G a6) k6 b6
  have d_standard_factors : Df l.prog w K mg base 4 "standard_factors" ["word"] (spD 1 rStd) := Df.mk' (ok_standard_factors F7 hB d_is_lyndon) (PySem.W.mg_of X G a7) k7 b7
  have d_law_deck : Df l.prog w K mg base 1 "_law_deck" ["script", "cells", "each"] (spDeck K) := Df.mk' (ok_law_deck F8 hB) (PySem.W.mg_of X G a8) k8 b8
  have d_law_take : Df l.prog w K mg base 1 "_law_take" ["deck", "many"] (spD 2 rTake) := Df.mk' (ok_law_take F9 hB) (PySem.W.mg_of X G a9) k9 b9
  have d_law_same : Df l.prog w K mg base 5 "_law_same" ["told", "due"] (spD 2 rSame) := Df.mk' (ok_law_same F10 d_law_plain) (PySem.W.mg_of X G a10) k10 b10
  have d_law_word : Df l.prog w K mg base 2 "_law_word" ["deck", "letters", "most"] (spD 3 rWord) := Df.mk' (ok_law_word F11 hB d_law_take) (PySem.W.mg_of X G a11) k11 b11
  have d_law_long : Df l.prog w K mg base 3 "_law_long" ["deck", "letters", "most"] (spD 3 rLong) := Df.mk' (ok_law_long F12 hB d_law_word d_law_take) (PySem.W.mg_of X G a12) k12 b12
  have d_law_is_lyndon : Df l.prog w K mg base 1 "_law_is_lyndon" ["word"] (spD 1 rLawLyn) := Df.mk' (ok_law_is_lyndon F13 hB) (PySem.W.mg_of X G a13) k13 b13
  have d_law_longest : Df l.prog w K mg base 2 "_law_longest" ["word"] (spD 1 rLongest) := Df.mk' (ok_law_longest F14 hB d_law_is_lyndon) (PySem.W.mg_of X G a14) k14 b14
  exact ok_law F15 hB d_law_deck d_law_take d_law_long d_lyndon_factors d_law_same d_law_is_lyndon d_standard_factors d_law_longest d_is_lyndon d_least_conjugate

theorem walk {l : PySem.W.OpenLaw} {q : Program} {loose : List Str} {XP : (Str → Option Value) → Heap → Prop} {YP : World → Heap → Prop} {d : DefRec} {K : Params → PySem.W.Frag} (hn : l.most = some 63) (hdf : d.params.defaults = [])
    (hY : ∀ (w : World) (h : Heap), YP w h → (K w.params).In h)
    (F : ∀ (w : World) (mg : Str → Option Value) (fa : Addr) (h : Heap), (K w.params).In h → h.Ns mainGlobals mg → mg d.name = some (.ref fa) →
      ∃ fd : FuncData, (∀ (s : Shared) (u : Value), BindsTo s fd ⟨[u], []⟩ [("script", u)]) ∧ ∀ base : Heap, (K w.params).In base → base.Ns mainGlobals mg → FnOk l.prog w (K w.params) mg base CX0 6 fa fd ["script"] (spLaw (K w.params))) :
    PySem.W.WalkO q loose XP YP l.row.toRowW d [] (fun f vs => PySem.call f vs) :=
  L2.walk_of (n := 63) (k := 6) (x := "script") (CX := fun _ => CX0) (sp := fun w => spLaw (K w.params)) hn (by decide) hdf ⟨rfl, by decide, by decide⟩ hY F (fun _ _ a ns hl _ hS => ⟨a, ns, rfl, hS, hl, fun _ => rfl⟩) fun _ _ _ _ _ z => z
end DL

open PySem PySem.W PyProof.Rows in
set_option maxRecDepth 100000 in
set_option maxHeartbeats 0 in
theorem PySem.Challenge.cw_langwork_k03_whole_long_lyndon_factors_holds : PySem.Challenge.rw_langwork_k03_whole_long_lyndon_factors.Holds := by
  w_on; o_law; k_head; (case hw => w_witness2)
  k_fill
  refine DL.walk (l := PySem.Challenge.rw_langwork_k03_whole_long_lyndon_factors) rfl rfl (fun w h Y => PySem.W.kIn_of Y) ?F
  case F =>
    intro w mg fa h KX G hmg
    refine' DL.all_mk KX G hmg ?a1 ?l1 ?c1 ?k1 ?a2 ?l2 ?c2 ?k2 ?a3 ?l3 ?c3 ?k3 ?a4 ?l4 ?c4 ?k4 ?a5 ?l5 ?c5 ?k5 ?a6 ?l6 ?c6 ?k6 ?a7 ?l7 ?c7 ?k7 ?a8 ?l8 ?c8 ?k8 ?a9 ?l9 ?c9 ?k9 ?a10 ?l10 ?c10 ?k10 ?a11 ?l11 ?c11 ?k11 ?a12 ?l12 ?c12 ?k12 ?a13 ?l13 ?c13 ?k13 ?a14 ?l14 ?c14 ?k14 ?a15 ?l15 ?c15 ?k15 ?z1 ?z2 ?z3 ?z4 ?z5 ?z6 ?z7 ?z8 ?z9 ?z10 ?z11 ?z12 ?z13
    (case a1 => k_is)
    (case l1 => k_is)
    (case c1 => k_is)
    (case k1 => k_is)
    (case a2 => k_is)
    (case l2 => k_is)
    (case c2 => k_is)
    (case k2 => k_is)
    (case a3 => k_is)
    (case l3 => k_is)
    (case c3 => k_is)
    (case k3 => k_is)
    (case a4 => k_is)
    (case l4 => k_is)
    (case c4 => k_is)
    (case k4 => k_is)
    (case a5 => k_is)
    (case l5 => k_is)
    (case c5 => k_is)
    (case k5 => k_is)
    (case a6 => k_is)
    (case l6 => k_is)
    (case c6 => k_is)
    (case k6 => k_is)
    (case a7 => k_is)
    (case l7 => k_is)
    (case c7 => k_is)
    (case k7 => k_is)
    (case a8 => k_is)
    (case l8 => k_is)
    (case c8 => k_is)
    (case k8 => k_is)
    (case a9 => k_is)
    (case l9 => k_is)
    (case c9 => k_is)
    (case k9 => k_is)
    (case a10 => k_is)
    (case l10 => k_is)
    (case c10 => k_is)
    (case k10 => k_is)
    (case a11 => k_is)
    (case l11 => k_is)
    (case c11 => k_is)
    (case k11 => k_is)
    (case a12 => k_is)
    (case l12 => k_is)
    (case c12 => k_is)
    (case k12 => k_is)
    (case a13 => k_is)
    (case l13 => k_is)
    (case c13 => k_is)
    (case k13 => k_is)
    (case a14 => k_is)
    (case l14 => k_is)
    (case c14 => k_is)
    (case k14 => k_is)
    (case a15 => k_is)
    (case l15 => k_is)
    (case c15 => k_is)
    (case k15 => k_is)
    (case z1 => k_is)
    (case z2 => k_is)
    (case z3 => k_is)
    (case z4 => k_is)
    (case z5 => k_is)
    (case z6 => k_is)
    (case z7 => k_is)
    (case z8 => k_is)
    (case z9 => k_is)
    (case z10 => k_is)
    (case z11 => k_is)
    (case z12 => k_is)
    (case z13 => k_is)


