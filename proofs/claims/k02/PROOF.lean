import PyProof.Rows.All
import Wide.All
import OpenK.AllK
import Wide.FinOn
import HandS.ForMost
import HandS.Style
import HandS.Wide
import HandS.Strs
import HandS.SortInts
import HandS.IsInst
import HandS.TryMany
import HandS.ExcField
import HandS.ExcInit
import HandS.WordsExc
import HandS.ClsMeth
import HandS.Set
import HandS.SortOrd
import PyProof.StrWalks
import PyProof.FactsAll.subtypes_3
import PyProof.FactsAll.subtypes_4
import PyProof.Rows.SortKeyStr
import PyProof.Rows.SortStr
import HandS.Gcd
import HandS.Conv
import PySem.Challenge.RW_langwork_k02_whole_two_great_periods
set_option Elab.async false
set_option linter.all false
set_option maxRecDepth 100000
set_option maxHeartbeats 4000000
/-! DL: plain data over the hand layer. -/
namespace DL
open PySem L2

/-! ### data -/
inductive Dt where
  | non
  | bl (b : Bool)
  | int (i : Int)
  | str (x : List Nat)
  | list (xs : List Dt)
  | tup (xs : List Dt)
  | deck
  | raw (a : Addr)

def S (x : List Nat) : Str := ⟨x.toArray⟩
theorem S_len (x : List Nat) : (S x).length = x.length := by
  show x.toArray.size = x.length
  simp
theorem S_cps (x : List Nat) : (S x).cps.toList = x := rfl
theorem S_of (z : Str) : S z.cps.toList = z := rfl
theorem S_inj {x y : List Nat} (h : S x = S y) : x = y := by
  have := congrArg (fun z : Str => z.cps.toList) h
  exact this

/-- the deck of numbers: a list of ints that are not negative; which ones is left open -/
def DeckAt (a : Addr) (h : Heap) : Prop := ∃ (ns : List Int) (its : List Value) (n : Nat), ns.length ≤ 100000 ∧ (∀ k ∈ ns, 0 ≤ k) ∧ Vals (ns.map V.int) its ∧ h.get? a = some { cls := .type "list", data := .seq its.toArray n }
def deckO (a : Addr) : HO := .ext (DeckAt a)

mutual
def Rp (H : Hp) : Dt → V → Prop
  | .non, v => v = .non
  | .bl b, v => v = .bl b
  | .int i, v => v = .int i
  | .str x, v => v = .str (S x)
  | .list xs, v => ∃ a vs, v = .ref a ∧ H a = some (.lst vs) ∧ RpAll H xs vs
  | .tup xs, v => ∃ a vs, v = .ref a ∧ H a = some (.tup vs) ∧ RpAll H xs vs
  | .deck, v => ∃ a, v = .ref a ∧ H a = some (deckO a)
  | .raw a, v => v = .ref a
def RpAll (H : Hp) : List Dt → List V → Prop
  | [], vs => vs = []
  | x :: xs, vs => ∃ v r, vs = v :: r ∧ Rp H x v ∧ RpAll H xs r
end

def Ex (H H' : Hp) : Prop := ∀ a o, H a = some o → H' a = some o
theorem Ex.refl (H : Hp) : Ex H H := fun _ _ h => h
theorem Ex.trans {H H1 H2 : Hp} (a : Ex H H1) (b : Ex H1 H2) : Ex H H2 := fun x o h => b x o (a x o h)
theorem Ex.new {H : Hp} {p : Addr} {o : HO} (h : H p = none) : Ex H (upd H p o) := fun a u e => by
  rw [upd_ne (ne_of_none e h)]
  exact e
theorem Ex.back {H H' : Hp} {p : Addr} (e : Ex H H') (h : H' p = none) : H p = none := by
  cases h1 : H p with
  | none => rfl
  | some o =>
    rw [e p o h1] at h
    cases h
theorem Ex.put {H H' : Hp} {p : Addr} {o : HO} (e : Ex H H') (h : H p = none) : Ex H (upd H' p o) := fun a u ha => by
  rw [upd_ne (ne_of_none ha h)]
  exact e a u ha

/-- the heaps grow: the frozen part by what is new -/
structure Gr (F H F' H' : Hp) : Prop where
  f : Ex F F'
  h : Ex H H'
  n : ∀ a o, F' a = some o → F a = none → H a = none
theorem Gr.refl (F H : Hp) : Gr F H F H := ⟨Ex.refl F, Ex.refl H, fun a o h n => by rw [n] at h; cases h⟩
theorem Gr.trans {F H F1 H1 F2 H2 : Hp} (a : Gr F H F1 H1) (b : Gr F1 H1 F2 H2) : Gr F H F2 H2 := ⟨a.f.trans b.f, a.h.trans b.h, fun x o h n => by
  cases h1 : F1 x with
  | some u => exact a.n x u h1 n
  | none => exact a.h.back (b.n x o h h1)⟩
theorem Gr.hOnly {F H H' : Hp} (h : Ex H H') : Gr F H F H' := ⟨Ex.refl F, h, fun a o h n => by rw [n] at h; cases h⟩
theorem Gr.alloc {F H : Hp} {p : Addr} {o : HO} (fh : Ex F H) (hp : H p = none) : Gr F H (upd F p o) (upd H p o) := ⟨Ex.new (fh.back hp), Ex.new hp, fun a u h n => by
  by_cases e : a = p
  · subst e
    exact hp
  · rw [upd_ne e, n] at h
    cases h⟩
theorem Gr.allocH {F H : Hp} {p : Addr} {o : HO} (hp : H p = none) : Gr F H F (upd H p o) := Gr.hOnly (Ex.new hp)

mutual
theorem Rp.mono {H H' : Hp} (e : Ex H H') : ∀ (d : Dt) {v : V}, Rp H d v → Rp H' d v
  | .non, _, h => h
  | .bl _, _, h => h
  | .int _, _, h => h
  | .str _, _, h => h
  | .list xs, _, h => by
    unfold Rp at h ⊢
    obtain ⟨a, vs, e1, e2, e3⟩ := h
    exact ⟨a, vs, e1, e _ _ e2, RpAll.mono e xs e3⟩
  | .tup xs, _, h => by
    unfold Rp at h ⊢
    obtain ⟨a, vs, e1, e2, e3⟩ := h
    exact ⟨a, vs, e1, e _ _ e2, RpAll.mono e xs e3⟩
  | .deck, _, h => by
    unfold Rp at h ⊢
    obtain ⟨a, e1, e2⟩ := h
    exact ⟨a, e1, e _ _ e2⟩
  | .raw _, _, h => h
theorem RpAll.mono {H H' : Hp} (e : Ex H H') : ∀ (ds : List Dt) {vs : List V}, RpAll H ds vs → RpAll H' ds vs
  | [], _, h => h
  | x :: xs, _, h => by
    unfold RpAll at h ⊢
    obtain ⟨v, r, e1, e2, e3⟩ := h
    exact ⟨v, r, e1, Rp.mono e x e2, RpAll.mono e xs e3⟩
end

section
variable {H : Hp}
theorem Rp.int_iff {i : Int} {v : V} : Rp H (.int i) v ↔ v = .int i := by unfold Rp; exact Iff.rfl
theorem Rp.bl_iff {b : Bool} {v : V} : Rp H (.bl b) v ↔ v = .bl b := by unfold Rp; exact Iff.rfl
theorem Rp.str_iff {x : List Nat} {v : V} : Rp H (.str x) v ↔ v = .str (S x) := by unfold Rp; exact Iff.rfl
theorem Rp.non_iff {v : V} : Rp H .non v ↔ v = .non := by unfold Rp; exact Iff.rfl
theorem Rp.list_iff {xs : List Dt} {v : V} : Rp H (.list xs) v ↔ ∃ a vs, v = .ref a ∧ H a = some (.lst vs) ∧ RpAll H xs vs := by rw [Rp.eq_def]
theorem Rp.tup_iff {xs : List Dt} {v : V} : Rp H (.tup xs) v ↔ ∃ a vs, v = .ref a ∧ H a = some (.tup vs) ∧ RpAll H xs vs := by rw [Rp.eq_def]
theorem Rp.deck_iff {v : V} : Rp H .deck v ↔ ∃ a, v = .ref a ∧ H a = some (deckO a) := by rw [Rp.eq_def]
theorem Rp.raw_iff {a : Addr} {v : V} : Rp H (.raw a) v ↔ v = .ref a := by unfold Rp; exact Iff.rfl
theorem RpAll.nil_iff {vs : List V} : RpAll H [] vs ↔ vs = [] := by unfold RpAll; exact Iff.rfl
theorem RpAll.cons_iff {x : Dt} {xs : List Dt} {vs : List V} : RpAll H (x :: xs) vs ↔ ∃ v r, vs = v :: r ∧ Rp H x v ∧ RpAll H xs r := by rw [RpAll.eq_def]
theorem RpAll.nil : RpAll H [] [] := RpAll.nil_iff.mpr rfl
theorem RpAll.cons {x : Dt} {xs : List Dt} {v : V} {vs : List V} (h : Rp H x v) (t : RpAll H xs vs) : RpAll H (x :: xs) (v :: vs) := RpAll.cons_iff.mpr ⟨v, vs, rfl, h, t⟩
theorem RpAll.length : ∀ {xs : List Dt} {vs : List V}, RpAll H xs vs → xs.length = vs.length
  | [], _, h => by rw [RpAll.nil_iff.mp h]; rfl
  | x :: xs, _, h => by
    obtain ⟨v, r, rfl, _, t⟩ := RpAll.cons_iff.mp h
    rw [List.length_cons, List.length_cons, RpAll.length t]
theorem RpAll.get : ∀ {xs : List Dt} {vs : List V} {i : Nat} {x : Dt}, RpAll H xs vs → xs[i]? = some x → ∃ v, vs[i]? = some v ∧ Rp H x v
  | [], _, i, x, _, e => by simp at e
  | y :: xs, _, 0, x, h, e => by
    obtain ⟨v, r, rfl, h1, t⟩ := RpAll.cons_iff.mp h
    simp at e
    subst e
    exact ⟨v, rfl, h1⟩
  | y :: xs, _, i + 1, x, h, e => by
    obtain ⟨v, r, rfl, h1, t⟩ := RpAll.cons_iff.mp h
    obtain ⟨w, h2, h3⟩ := RpAll.get (i := i) (x := x) t (by simpa using e)
    exact ⟨w, by simpa using h2, h3⟩
theorem RpAll.get' {xs : List Dt} {vs : List V} {i : Nat} {v : V} (h : RpAll H xs vs) (e : vs[i]? = some v) : ∃ x, xs[i]? = some x ∧ Rp H x v := by
  have hl := h.length
  have hi : i < xs.length := by rw [hl]; exact (List.getElem?_eq_some_iff.mp e).1
  obtain ⟨w, h1, h2⟩ := h.get (List.getElem?_eq_getElem hi)
  rw [e] at h1
  cases h1
  exact ⟨_, List.getElem?_eq_getElem hi, h2⟩
theorem RpAll.append : ∀ {xs ys : List Dt} {vs ws : List V}, RpAll H xs vs → RpAll H ys ws → RpAll H (xs ++ ys) (vs ++ ws)
  | [], _, _, _, h, t => by rw [RpAll.nil_iff.mp h]; exact t
  | x :: xs, _, _, _, h, t => by
    obtain ⟨v, r, rfl, h1, h2⟩ := RpAll.cons_iff.mp h
    exact RpAll.cons h1 (RpAll.append h2 t)
theorem RpAll.set {d : Dt} {v : V} (h : Rp H d v) : ∀ {xs : List Dt} {vs : List V} (i : Nat), RpAll H xs vs → RpAll H (xs.set i d) (vs.set i v)
  | [], _, _, h => by rw [RpAll.nil_iff.mp h]; exact RpAll.nil
  | x :: xs, _, 0, h' => by
    obtain ⟨w, r, rfl, h1, h2⟩ := RpAll.cons_iff.mp h'
    exact RpAll.cons h h2
  | x :: xs, _, i + 1, h' => by
    obtain ⟨w, r, rfl, h1, h2⟩ := RpAll.cons_iff.mp h'
    exact RpAll.cons h1 (RpAll.set h i h2)
theorem RpAll.take : ∀ {xs : List Dt} {vs : List V} (n : Nat), RpAll H xs vs → RpAll H (xs.take n) (vs.take n)
  | _, _, 0, _ => RpAll.nil
  | [], _, n + 1, h => by rw [RpAll.nil_iff.mp h]; exact RpAll.nil
  | x :: xs, _, n + 1, h => by
    obtain ⟨w, r, rfl, h1, h2⟩ := RpAll.cons_iff.mp h
    exact RpAll.cons h1 (RpAll.take n h2)
theorem RpAll.drop : ∀ {xs : List Dt} {vs : List V} (n : Nat), RpAll H xs vs → RpAll H (xs.drop n) (vs.drop n)
  | _, _, 0, h => h
  | [], _, n + 1, h => by rw [RpAll.nil_iff.mp h]; exact RpAll.nil
  | x :: xs, _, n + 1, h => by
    obtain ⟨w, r, rfl, h1, h2⟩ := RpAll.cons_iff.mp h
    exact RpAll.drop n h2
theorem RpAll.reverse : ∀ {xs : List Dt} {vs : List V}, RpAll H xs vs → RpAll H xs.reverse vs.reverse
  | [], _, h => by rw [RpAll.nil_iff.mp h]; exact RpAll.nil
  | x :: xs, _, h => by
    obtain ⟨w, r, rfl, h1, h2⟩ := RpAll.cons_iff.mp h
    rw [List.reverse_cons, List.reverse_cons]
    exact (RpAll.reverse h2).append (RpAll.cons h1 RpAll.nil)
theorem RpAll.rep {xs : List Dt} {vs : List V} (h : RpAll H xs vs) : ∀ n : Nat, RpAll H (List.replicate n xs).flatten (List.replicate n vs).flatten
  | 0 => RpAll.nil
  | n + 1 => by
    rw [List.replicate_succ, List.replicate_succ, List.flatten_cons, List.flatten_cons]
    exact h.append (RpAll.rep h n)
theorem RpAll.ints : ∀ ns : List Int, RpAll H (ns.map Dt.int) (ns.map V.int)
  | [] => RpAll.nil
  | n :: ns => RpAll.cons (Rp.int_iff.mpr rfl) (RpAll.ints ns)
theorem RpAll.ints_iff : ∀ {ns : List Int} {vs : List V}, RpAll H (ns.map Dt.int) vs ↔ vs = ns.map V.int
  | [], vs => RpAll.nil_iff
  | n :: ns, vs => by
    constructor
    · intro h
      obtain ⟨w, r, rfl, h1, h2⟩ := RpAll.cons_iff.mp h
      rw [Rp.int_iff.mp h1, RpAll.ints_iff.mp h2]; rfl
    · rintro rfl
      exact RpAll.ints (n :: ns)
theorem RpAll.strs_iff : ∀ {ns : List (List Nat)} {vs : List V}, RpAll H (ns.map Dt.str) vs ↔ vs = (ns.map S).map V.str
  | [], vs => RpAll.nil_iff
  | n :: ns, vs => by
    constructor
    · intro h
      obtain ⟨w, r, rfl, h1, h2⟩ := RpAll.cons_iff.mp h
      rw [Rp.str_iff.mp h1, RpAll.strs_iff.mp h2]; rfl
    · rintro rfl
      exact RpAll.cons (Rp.str_iff.mpr rfl) (RpAll.strs_iff.mpr rfl)
theorem RpAll.bls_iff : ∀ {ns : List Bool} {vs : List V}, RpAll H (ns.map Dt.bl) vs ↔ vs = ns.map V.bl
  | [], vs => RpAll.nil_iff
  | n :: ns, vs => by
    constructor
    · intro h
      obtain ⟨w, r, rfl, h1, h2⟩ := RpAll.cons_iff.mp h
      rw [Rp.bl_iff.mp h1, RpAll.bls_iff.mp h2]; rfl
    · rintro rfl
      exact RpAll.cons (Rp.bl_iff.mpr rfl) (RpAll.bls_iff.mpr rfl)
end

/-! ### slots -/
inductive Sl where
  | no
  | dat (d : Dt)
  | own (xs : List Dt)

/-- the base of a def's run: the heap at the entry, the part of it that the arguments lean on, further facts -/
structure Bs where
  H0 : Hp
  G0 : Hp
  gh : List Hp := []

def SlOk (B : Bs) (F H : Hp) : Sl → Option V → Prop
  | .no, _ => True
  | .dat d, o => ∃ v, o = some v ∧ Rp F d v
  | .own xs, o => ∃ p vs, o = some (.ref p) ∧ B.H0 p = none ∧ F p = none ∧ H p = some (.lst vs) ∧ RpAll F xs vs

structure EnvOk (B : Bs) (F H : Hp) (σ : L2.St) (env : List Sl) : Prop where
  len : σ.length = env.length
  g : Ex B.G0 F
  gf : ∀ a o, F a = some o → B.G0 a = none → B.H0 a = none
  fh : Ex F H
  hh : Ex B.H0 H
  gho : ∀ G ∈ B.gh, Ex G F
  sl : ∀ (i : Nat) (s : Sl) (o : Option V), env[i]? = some s → σ[i]? = some o → SlOk B F H s o
  sep : ∀ (i j : Nat) (xs ys : List Dt) (p : Addr), env[i]? = some (.own xs) → env[j]? = some (.own ys) → σ[i]? = some (some (.ref p)) → σ[j]? = some (some (.ref p)) → i = j

def sel (m : Bool) (F H : Hp) : Hp := if m then F else H
theorem Rp.sel {m : Bool} {F H : Hp} {d : Dt} {v : V} (e : Ex F H) (h : Rp F d v) : Rp (sel m F H) d v := by
  cases m with
  | true => exact h
  | false => exact Rp.mono e d h
theorem Rp.unsel {m : Bool} {F H : Hp} {d : Dt} {v : V} (e : Ex F H) (h : Rp (DL.sel m F H) d v) : Rp H d v := by
  cases m with
  | true => exact Rp.mono e d h
  | false => exact h

section
variable {B : Bs} {F H F' H' : Hp} {σ : L2.St} {env : List Sl}
theorem EnvOk.get (E : EnvOk B F H σ env) {i : Nat} {s : Sl} (h : env[i]? = some s) : ∃ o, σ[i]? = some o ∧ SlOk B F H s o := by
  have hi : i < σ.length := by rw [E.len]; exact (List.getElem?_eq_some_iff.mp h).1
  exact ⟨_, List.getElem?_eq_getElem hi, E.sl _ _ _ h (List.getElem?_eq_getElem hi)⟩
theorem EnvOk.dat (E : EnvOk B F H σ env) {i : Nat} {d : Dt} (h : env[i]? = some (.dat d)) : ∃ v, σ[i]? = some (some v) ∧ Rp F d v := by
  obtain ⟨o, h1, v, rfl, h2⟩ := E.get h
  exact ⟨v, h1, h2⟩
theorem EnvOk.own (E : EnvOk B F H σ env) {i : Nat} {xs : List Dt} (h : env[i]? = some (.own xs)) :
    ∃ p vs, σ[i]? = some (some (.ref p)) ∧ B.H0 p = none ∧ F p = none ∧ H p = some (.lst vs) ∧ RpAll F xs vs := by
  obtain ⟨o, h1, p, vs, rfl, h2⟩ := E.get h
  exact ⟨p, vs, h1, h2⟩
theorem SlOk.ext {s : Sl} {o : Option V} (h : SlOk B F H s o) (e1 : Ex F F') (e2 : Ex H H') (hf : ∀ p vs, H p = some (.lst vs) → F p = none → F' p = none) : SlOk B F' H' s o := by
  cases s with
  | no => trivial
  | dat d =>
    obtain ⟨v, h1, h2⟩ := h
    exact ⟨v, h1, Rp.mono e1 d h2⟩
  | own xs =>
    obtain ⟨p, vs, h1, h2, h3, h4, h5⟩ := h
    exact ⟨p, vs, h1, h2, hf p vs h4 h3, e2 _ _ h4, RpAll.mono e1 xs h5⟩
/-- the heaps grow: F by what is new, H by anything -/
theorem EnvOk.ext (E : EnvOk B F H σ env) (e1 : Ex F F') (e2 : Ex H H') (e3 : Ex F' H') (hf : ∀ a o, F' a = some o → F a = none → H a = none) : EnvOk B F' H' σ env where
  len := E.len
  g := E.g.trans e1
  gf := fun a o h h0 => by
    cases h1 : F a with
    | some u => exact E.gf a u h1 h0
    | none => exact E.hh.back (hf a o h h1)
  fh := e3
  hh := E.hh.trans e2
  gho := fun p hp => (E.gho p hp).trans e1
  sl := fun i s o h1 h2 => (E.sl i s o h1 h2).ext e1 e2 fun p vs hp hn => by
    cases h : F' p with
    | none => rfl
    | some u =>
      rw [hf p u h hn] at hp
      cases hp
  sep := E.sep
/-- a new object -/
theorem EnvOk.gr (E : EnvOk B F H σ env) (g : Gr F H F' H') (e3 : Ex F' H') : EnvOk B F' H' σ env := E.ext g.f g.h e3 g.n
/-- a new object -/
theorem EnvOk.alloc (E : EnvOk B F H σ env) {p : Addr} (o : HO) (hp : H p = none) : EnvOk B (upd F p o) (upd H p o) σ env :=
  E.ext (Ex.new (E.fh.back hp)) (Ex.new hp) (fun a u h => by
    by_cases e : a = p
    · subst e
      rw [upd_same] at h ⊢
      exact h
    · rw [upd_ne e] at h ⊢
      exact E.fh a u h) fun a u h hn => by
    by_cases e : a = p
    · subst e
      exact hp
    · rw [upd_ne e, hn] at h
      cases h
/-- a new object that is not frozen -/
theorem EnvOk.allocH (E : EnvOk B F H σ env) {p : Addr} (o : HO) (hp : H p = none) : EnvOk B F (upd H p o) σ env :=
  E.ext (Ex.refl F) (Ex.new hp) (E.fh.put (E.fh.back hp)) fun a u h hn => by
    rw [hn] at h
    cases h
/-- a loose list is frozen -/
theorem EnvOk.freezeP (E : EnvOk B F H σ env) {p : Addr} {o : HO} (h0 : B.H0 p = none) (hf : F p = none) (hp : H p = some o) (ho : ∀ (i : Nat) xs, env[i]? = some (.own xs) → σ[i]? ≠ some (some (.ref p))) : EnvOk B (upd F p o) H σ env where
  len := E.len
  g := E.g.trans (Ex.new hf)
  gf := fun a u h hn => by
    by_cases e : a = p
    · subst e
      exact h0
    · rw [upd_ne e] at h
      exact E.gf a u h hn
  fh := fun a u h => by
    by_cases e : a = p
    · subst e
      rw [upd_same] at h
      rw [hp, h]
    · rw [upd_ne e] at h
      exact E.fh a u h
  hh := E.hh
  gho := fun q hq => (E.gho q hq).trans (Ex.new hf)
  sl := fun i s u h1 h2 => by
    have q := E.sl i s u h1 h2
    cases s with
    | no => trivial
    | dat d =>
      obtain ⟨v, e1, e2⟩ := q
      exact ⟨v, e1, Rp.mono (Ex.new hf) d e2⟩
    | own xs =>
      obtain ⟨q, vs, e1, e2, e3, e4, e5⟩ := q
      have hne : q ≠ p := fun z => by
        subst z
        rw [e1] at h2
        exact ho i xs h1 h2
      exact ⟨q, vs, e1, e2, by rw [upd_ne hne]; exact e3, e4, RpAll.mono (Ex.new hf) xs e5⟩
  sep := E.sep
theorem EnvOk.setDat (E : EnvOk B F H σ env) {i : Nat} {d : Dt} {v : V} (h : Rp F d v) : EnvOk B F H (σ.set i (some v)) (env.set i (.dat d)) where
  len := by rw [List.length_set, List.length_set, E.len]
  g := E.g
  gf := E.gf
  fh := E.fh
  hh := E.hh
  gho := E.gho
  sl := fun j s o h1 h2 => by
    by_cases e : i = j
    · subst e
      have hl : i < env.length := by simpa using (List.getElem?_eq_some_iff.mp h1).1
      rw [List.getElem?_set_self hl] at h1
      rw [List.getElem?_set_self (by rw [E.len]; exact hl)] at h2
      cases h1
      cases h2
      exact ⟨v, rfl, h⟩
    · rw [List.getElem?_set_ne e] at h1 h2
      exact E.sl j s o h1 h2
  sep := fun a b xs ys p h1 h2 h3 h4 => by
    have ha : i ≠ a := fun e => by
      subst e
      have hl : i < env.length := by simpa using (List.getElem?_eq_some_iff.mp h1).1
      rw [List.getElem?_set_self hl] at h1
      cases h1
    have hb : i ≠ b := fun e => by
      subst e
      have hl : i < env.length := by simpa using (List.getElem?_eq_some_iff.mp h2).1
      rw [List.getElem?_set_self hl] at h2
      cases h2
    rw [List.getElem?_set_ne ha] at h1 h3
    rw [List.getElem?_set_ne hb] at h2 h4
    exact E.sep a b xs ys p h1 h2 h3 h4
theorem EnvOk.setNo (E : EnvOk B F H σ env) {i : Nat} {o : Option V} : EnvOk B F H (σ.set i o) (env.set i .no) where
  len := by rw [List.length_set, List.length_set, E.len]
  g := E.g
  gf := E.gf
  fh := E.fh
  hh := E.hh
  gho := E.gho
  sl := fun j s o' h1 h2 => by
    by_cases e : i = j
    · subst e
      have hl : i < env.length := by simpa using (List.getElem?_eq_some_iff.mp h1).1
      rw [List.getElem?_set_self hl] at h1
      cases h1
      trivial
    · rw [List.getElem?_set_ne e] at h1 h2
      exact E.sl j s o' h1 h2
  sep := fun a b xs ys p h1 h2 h3 h4 => by
    have ha : i ≠ a := fun e => by
      subst e
      have hl : i < env.length := by simpa using (List.getElem?_eq_some_iff.mp h1).1
      rw [List.getElem?_set_self hl] at h1
      cases h1
    have hb : i ≠ b := fun e => by
      subst e
      have hl : i < env.length := by simpa using (List.getElem?_eq_some_iff.mp h2).1
      rw [List.getElem?_set_self hl] at h2
      cases h2
    rw [List.getElem?_set_ne ha] at h1 h3
    rw [List.getElem?_set_ne hb] at h2 h4
    exact E.sep a b xs ys p h1 h2 h3 h4
/-- forget a slot -/
theorem EnvOk.drop (E : EnvOk B F H σ env) (i : Nat) : EnvOk B F H σ (env.set i .no) := by
  by_cases hi : i < σ.length
  · have := E.setNo (i := i) (o := σ[i])
    rwa [List.set_getElem_self] at this
  · rw [List.set_eq_of_length_le (by rw [← E.len]; omega)]
    exact E
/-- an own list comes to a slot -/
theorem EnvOk.setOwn (E : EnvOk B F H σ env) {i : Nat} {xs : List Dt} {p : Addr} {vs : List V} (h0 : B.H0 p = none) (hf : F p = none) (hp : H p = some (.lst vs)) (hr : RpAll F xs vs)
    (ho : ∀ (j : Nat) ys, j ≠ i → env[j]? = some (.own ys) → σ[j]? ≠ some (some (.ref p))) : EnvOk B F H (σ.set i (some (.ref p))) (env.set i (.own xs)) where
  len := by rw [List.length_set, List.length_set, E.len]
  g := E.g
  gf := E.gf
  fh := E.fh
  hh := E.hh
  gho := E.gho
  sl := fun j s o h1 h2 => by
    by_cases e : i = j
    · subst e
      have hl : i < env.length := by simpa using (List.getElem?_eq_some_iff.mp h1).1
      rw [List.getElem?_set_self hl] at h1
      rw [List.getElem?_set_self (by rw [E.len]; exact hl)] at h2
      cases h1
      cases h2
      exact ⟨p, vs, rfl, h0, hf, hp, hr⟩
    · rw [List.getElem?_set_ne e] at h1 h2
      exact E.sl j s o h1 h2
  sep := fun a b zs ys q h1 h2 h3 h4 => by
    by_cases ha : i = a
    · by_cases hb : i = b
      · exact ha.symm.trans hb
      · subst ha
        have hl : i < σ.length := by simpa using (List.getElem?_eq_some_iff.mp h3).1
        rw [List.getElem?_set_self hl] at h3
        rw [List.getElem?_set_ne hb] at h2 h4
        cases h3
        exact absurd h4 (ho b ys (Ne.symm hb) h2)
    · rw [List.getElem?_set_ne ha] at h1 h3
      by_cases hb : i = b
      · subst hb
        have hl : i < σ.length := by simpa using (List.getElem?_eq_some_iff.mp h4).1
        rw [List.getElem?_set_self hl] at h4
        cases h4
        exact absurd h3 (ho a zs (Ne.symm ha) h1)
      · rw [List.getElem?_set_ne hb] at h2 h4
        exact E.sep a b zs ys q h1 h2 h3 h4
/-- the own list at slot i is changed -/
theorem EnvOk.putOwn (E : EnvOk B F H σ env) {i : Nat} {xs ys : List Dt} {p : Addr} {vs : List V} (hi : env[i]? = some (.own xs)) (hs : σ[i]? = some (some (.ref p))) (hr : RpAll F ys vs) :
    EnvOk B F (upd H p (.lst vs)) σ (env.set i (.own ys)) := by
  obtain ⟨p', vs', h1, h2, h3, h4, h5⟩ := E.own hi
  rw [hs] at h1
  cases h1
  refine ⟨by rw [List.length_set, E.len], E.g, E.gf, E.fh.put h3, E.hh.put h2, E.gho, fun j s o e1 e2 => ?_, fun a b zs ws q e1 e2 e3 e4 => ?_⟩
  · by_cases e : i = j
    · subst e
      have hl : i < env.length := by simpa using (List.getElem?_eq_some_iff.mp e1).1
      rw [List.getElem?_set_self hl] at e1
      cases e1
      rw [hs] at e2
      cases e2
      exact ⟨p, vs, rfl, h2, h3, upd_same, hr⟩
    · rw [List.getElem?_set_ne e] at e1
      have q := E.sl j s o e1 e2
      cases s with
      | no => trivial
      | dat d => exact q
      | own zs =>
        obtain ⟨q, ws, f1, f2, f3, f4, f5⟩ := q
        have hne : q ≠ p := fun z => by
          subst z
          rw [f1] at e2
          exact e (E.sep i j xs zs q hi e1 hs e2)
        exact ⟨q, ws, f1, f2, f3, by rw [upd_ne hne]; exact f4, f5⟩
  · have old : ∀ {a : Nat} {zs : List Dt}, (env.set i (.own ys))[a]? = some (.own zs) → ∃ us, env[a]? = some (.own us) := fun {a zs} h => by
      by_cases e : i = a
      · subst e
        exact ⟨xs, hi⟩
      · rw [List.getElem?_set_ne e] at h
        exact ⟨zs, h⟩
    obtain ⟨us, g1⟩ := old e1
    obtain ⟨ws', g2⟩ := old e2
    exact E.sep a b us ws' q g1 g2 e3 e4
end

/-! ### judgements -/
def Ev (B : Bs) (m : Bool) (te : TE) (env : List Sl) (P : Dt → Prop) : Prop :=
  ∀ F H σ, EnvOk B F H σ env → ∀ Q : VK, (∀ d v F' H', P d → EnvOk B F' H' σ env → Gr F H F' H' → Rp (sel m F' H') d v → Q v H') → te σ H Q
/-- a new list -/
def El (B : Bs) (te : TE) (env : List Sl) (P : List Dt → Prop) : Prop :=
  ∀ F H σ, EnvOk B F H σ env → ∀ Q : VK, (∀ xs vs p F' H', P xs → EnvOk B F' H' σ env → Gr F H F' H' → H p = none → F' p = none → H' p = some (.lst vs) → RpAll F' xs vs → Q (.ref p) H') → te σ H Q
def Et (B : Bs) (tt : TT) (env : List Sl) (PT PF : Prop) : Prop :=
  ∀ F H σ, EnvOk B F H σ env → ∀ Q : Bool → Hp → Prop, (PT → ∀ F' H', EnvOk B F' H' σ env → Gr F H F' H' → Q true H') → (PF → ∀ F' H', EnvOk B F' H' σ env → Gr F H F' H' → Q false H') → tt σ H Q
def Ea (B : Bs) (m : Bool) (ta : TA) (env : List Sl) (P : List Dt → Prop) : Prop :=
  ∀ F H σ, EnvOk B F H σ env → ∀ Q : List V → Hp → Prop, (∀ ds vs F' H', P ds → EnvOk B F' H' σ env → Gr F H F' H' → RpAll (sel m F' H') ds vs → Q vs H') → ta σ H Q
def Nx (B : Bs) (env : List Sl) (N : L2.St → Hp → Prop) : Prop := ∀ F H σ, EnvOk B F H σ env → N σ H
def Wp (B : Bs) (ts : TS) (env : List Sl) (D : Ends) : Prop := ∀ F H σ, EnvOk B F H σ env → ts D σ H
/-- what may be handed back -/
def Rt (B : Bs) (N : VK) (Φ : Dt → Prop) : Prop :=
  ∀ d v G' H', Φ d → Ex B.G0 G' → (∀ a o, G' a = some o → B.G0 a = none → B.H0 a = none) → Ex G' H' → Ex B.H0 H' → Rp G' d v → N v H'
/-- an own list may be handed back -/
def RtO (B : Bs) (N : VK) (Φ : List Dt → Prop) : Prop :=
  ∀ xs vs p G' H', Φ xs → Ex B.G0 G' → (∀ a o, G' a = some o → B.G0 a = none → B.H0 a = none) → Ex G' H' → Ex B.H0 H' → B.H0 p = none → G' p = none → H' p = some (.lst vs) → RpAll G' xs vs → N (.ref p) H'
def CZ (B : Bs) (I : List Sl → Prop) : L2.St → Hp → Prop := fun σ H => ∃ F env, EnvOk B F H σ env ∧ I env
theorem nx_cz {B : Bs} {env : List Sl} {I : List Sl → Prop} (h : I env) : Nx B env (CZ B I) := fun F H σ E => ⟨F, env, E, h⟩
/-- what follows, then the rest -/
def Sq (u : TS) (D : Ends) : Ends := { D with nx := u D }
/-- within a loop -/
def Lo (B : Bs) (D : Ends) (I : List Sl → Prop) : Ends := { D with nx := CZ B I, ct := CZ B I, bk := D.nx }
/-- a def's own end -/
def Top (Q : VK) : Ends := { nx := fun _ H' => Q .non H', rt := Q }
theorem nx_sq {B : Bs} {env : List Sl} {u : TS} {D : Ends} (h : Wp B u env D) : Nx B env (Sq u D).nx := h
theorem nx_lo {B : Bs} {env : List Sl} {D : Ends} {I : List Sl → Prop} (h : I env) : Nx B env (Lo B D I).nx := nx_cz h
theorem ct_lo {B : Bs} {env : List Sl} {D : Ends} {I : List Sl → Prop} (h : I env) : Nx B env (Lo B D I).ct := nx_cz h
theorem bk_lo {B B' : Bs} {env : List Sl} {D : Ends} {I : List Sl → Prop} (h : Nx B env D.nx) : Nx B env (Lo B' D I).bk := h
theorem nx_top {B : Bs} {env : List Sl} {Q : VK} {Φ : Dt → Prop} (hr : Rt B Q Φ) (h : Φ .non) : Nx B env (Top Q).nx := fun F H σ E => hr .non .non F H h E.g (fun a o h1 h2 => E.gf a o h1 h2) E.fh E.hh (Rp.non_iff.mpr rfl)
theorem wp_nx {B : Bs} {env : List Sl} {u : TS} {D : Ends} (h : Wp B u env D) : Nx B env (u D) := h

/-- promises: data in, data out -/
abbrev Rd1 := List Dt → (Dt → Prop) → Prop
abbrev RdL := List Dt → (List Dt → Prop) → Prop
def spD (n : Nat) (R : Rd1) : Sp := fun vs H Q _ => ∃ (G : Hp) (args : List Dt) (Φ : Dt → Prop), args.length = n ∧ Ex G H ∧ RpAll G args vs ∧ R args Φ ∧ Rt ⟨H, G, []⟩ Q Φ
def spO (n : Nat) (R : RdL) : Sp := fun vs H Q _ => ∃ (G : Hp) (args : List Dt) (Φ : List Dt → Prop), args.length = n ∧ Ex G H ∧ RpAll G args vs ∧ R args Φ ∧ RtO ⟨H, G, []⟩ Q Φ
end DL

set_option Elab.async false
set_option linter.all false
set_option maxRecDepth 100000
set_option maxHeartbeats 4000000
set_option autoImplicit false
namespace DL
open PySem L2

theorem sz1 {n : Nat} (h : n ≤ 1000000) : n ≤ sizeLine := Nat.le_trans h (by decide)
theorem sz2 {n : Nat} (h : n < 1000000) : n < sizeLine := Nat.lt_of_lt_of_le h (by decide)

/-! ### kit rules under short names -/
section
variable {X : Cx}
def rAddS : R2 := fun x y H Q => ∃ i j, x = .str i ∧ y = .str j ∧ i.length + j.length ≤ sizeLine ∧ Q (.str (i ++ j)) H
theorem op_addS : OpR X (binaryOp .Add) rAddS := op_add_str
def rLtS : R2 := fun x y H Q => ∃ i j : Str, x = .str i ∧ y = .str j ∧ Q (.bl (decide (i.cps.toList < j.cps.toList))) H
def rGtS : R2 := fun x y H Q => ∃ i j : Str, x = .str i ∧ y = .str j ∧ Q (.bl (decide (j.cps.toList < i.cps.toList))) H
def rLeS : R2 := fun x y H Q => ∃ i j : Str, x = .str i ∧ y = .str j ∧ Q (.bl (!decide (j.cps.toList < i.cps.toList))) H
def rGeS : R2 := fun x y H Q => ∃ i j : Str, x = .str i ∧ y = .str j ∧ Q (.bl (!decide (i.cps.toList < j.cps.toList))) H
theorem op_ltS : OpR X (compareOp .Lt) rLtS := op_lt_str
theorem op_gtS : OpR X (compareOp .Gt) rGtS := op_gt_str
theorem op_leS : OpR X (compareOp .LtE) rLeS := op_le_str
theorem op_geS : OpR X (compareOp .GtE) rGeS := op_ge_str
def rIsNn : R2 := fun x y H Q => y = .non ∧ Q (.bl (decide (x = .non))) H
def rNotNn : R2 := fun x y H Q => y = .non ∧ Q (.bl (!decide (x = .non))) H
theorem op_isNn : OpR X (compareOp .Is) rIsNn := op_isN
theorem op_notNn : OpR X (compareOp .IsNot) rNotNn := op_notN
def rLenL (K : PySem.W.Frag) : List V → Hp → VK → Prop := fun xs H Q => ∃ p ys, xs = [.ref p] ∧ (SqL K H p ys ∨ SqT K H p ys) ∧ Q (.int ys.length) H
theorem cl_lenL : CallR X (.builtin "len") (rLenL X.K) := call_len_seq
def rLenS : List V → Hp → VK → Prop := fun xs H Q => ∃ z : Str, xs = [.str z] ∧ z.length ≤ sizeLine ∧ Q (.int z.length) H
theorem cl_lenS : CallR X (.builtin "len") rLenS := call_len_str
def rAbs : List V → Hp → VK → Prop := fun xs H Q => ∃ i : Int, xs = [.int i] ∧ Q (.int (if i < 0 then -i else i)) H
theorem cl_abs : CallR X (.builtin "abs") rAbs := call_abs
def rMax2' : List V → Hp → VK → Prop := fun xs H Q => ∃ i j : Int, xs = [.int i, .int j] ∧ Q (.int (if j > i then j else i)) H
theorem cl_max2 (hc : X.calm = true) : CallR X (.builtin "max") rMax2' := call_max2 hc
def rMin2' : List V → Hp → VK → Prop := fun xs H Q => ∃ i j : Int, xs = [.int i, .int j] ∧ Q (.int (if j < i then j else i)) H
theorem cl_min2 (hc : X.calm = true) : CallR X (.builtin "min") rMin2' := call_min2 hc
def rInt1 : List V → Hp → VK → Prop := fun xs H Q => (∃ i : Int, xs = [.int i] ∧ Q (.int i) H) ∨ ∃ k : Bool, xs = [.bl k] ∧ Q (.int (if k then 1 else 0)) H
theorem cl_int1 : CallR X (.type "int") rInt1 := call_int1
def rStrI : List V → Hp → VK → Prop := fun xs H Q => ∃ i : Int, xs = [.int i] ∧ i.natAbs.log2 < 1920 ∧ Q (.str (toString i)) H
theorem cl_strI : CallR X (.type "str") rStrI := call_str_int
def rListOf (K : PySem.W.Frag) : List V → Hp → VK → Prop := fun xs H Q => ∃ p ys, xs = [.ref p] ∧ (SqL K H p ys ∨ SqT K H p ys) ∧ ∀ l, H l = none → Q (.ref l) (upd H l (.lst ys))
theorem cl_listOf : CallR X (.type "list") (rListOf X.K) := call_list_of
def rJoin (K : PySem.W.Frag) : V → List V → Hp → VK → Prop := fun x xs H Q => ∃ a p, ∃ ys : List Str, x = .str a ∧ xs = [.ref p] ∧ (SqL K H p (ys.map V.str) ∨ SqT K H p (ys.map V.str)) ∧ (ys.map (·.length)).sum + ys.length * a.length ≤ 16777216 ∧ Q (.str (Txt.join a ys)) H
theorem mt_joinD : MtR X "str.join" (rJoin X.K) := mt_join
/-- s * n -/
def rMulS : R2 := fun x y H Q => ∃ (z : Str) (k : Int), x = .str z ∧ y = .int k ∧ -(2 ^ 63) ≤ k ∧ k < 2 ^ 63 ∧ z.length * k.toNat ≤ 1000000 ∧ Q (.str ⟨(List.replicate k.toNat z.cps.toList).flatten.toArray⟩) H
theorem foldl_app : ∀ (n : Nat) (x acc : Array Nat), ((List.replicate n x).foldl (· ++ ·) acc).toList = acc.toList ++ (List.replicate n x.toList).flatten
  | 0, _, _ => by simp
  | n + 1, x, acc => by
    rw [List.replicate_succ, List.foldl_cons, foldl_app n x (acc ++ x), List.replicate_succ, List.flatten_cons]
    simp
theorem op_mulS : OpR X (binaryOp .Mult) rMulS := by
  intro pins s σ H x y v u Q I rx ry h
  obtain ⟨z, k, rfl, rfl, h0, h1, h2, q⟩ := h
  obtain ⟨t, rfl⟩ := rx
  obtain ⟨t', rfl⟩ := ry
  have hz : z.length = z.cps.toList.length := by show z.cps.size = _; simp
  refine PySem.P.mul_str ?_ ?_ ?_ ?_
  · rw [decide_eq_false (by omega), decide_eq_false (by omega)]; rfl
  · intro a b hh
    have hk : 1 ≤ k := by omega
    have hkn : (k.toNat : Int) = k := Int.toNat_of_nonneg (by omega)
    have hm : (z.length : Int) * k ≤ 1000000 := by
      have : ((z.length * k.toNat : Nat) : Int) ≤ 1000000 := by omega
      rw [Int.natCast_mul, hkn] at this
      exact this
    have hle : (z.length : Int) ≤ (2 ^ 63 - 1) / k := by
      rw [Int.le_ediv_iff_mul_le (by omega)]
      omega
    omega
  · intro a b
    show decide (_ > sizeLine) = false
    exact decide_eq_false (by have : 1000000 ≤ sizeLine := by decide
                              omega)
  · by_cases c1 : k < 1
    · rw [if_pos c1]
      refine ⟨by decide, .str _, H, I.tok _, ⟨_, rfl⟩, ?_⟩
      have e : k.toNat = 0 := by omega
      rw [e] at q
      exact q
    · rw [if_neg c1]
      by_cases c2 : (k == 1 || z.length == 0) = true
      · rw [if_pos c2]
        refine ⟨.str z, H, I, ⟨t, rfl⟩, ?_⟩
        have e : (List.replicate k.toNat z.cps.toList).flatten = z.cps.toList := by
          rcases (Bool.or_eq_true _ _).mp c2 with c | c
          · have : k = 1 := eq_of_beq c
            subst this
            simp
          · have : z.length = 0 := eq_of_beq c
            rw [hz] at this
            have e0 : z.cps.toList = [] := List.eq_nil_of_length_eq_zero this
            rw [e0]
            induction k.toNat with
            | zero => rfl
            | succ n ih => rw [List.replicate_succ, List.flatten_cons, ih]; rfl
        rw [e] at q
        exact q
      · rw [if_neg c2]
        have e := foldl_app k.toNat z.cps #[]
        have e2 : (List.replicate k.toNat z.cps).foldl (· ++ ·) #[] = (List.replicate k.toNat z.cps.toList).flatten.toArray := by
          apply Array.ext'
          rw [e]
          simp
        have e3 : Str.length ⟨(List.replicate k.toNat z.cps).foldl (· ++ ·) #[]⟩ ≤ sizeLine := by
          rw [e2]
          show ((List.replicate k.toNat z.cps.toList).flatten.toArray).size ≤ sizeLine
          rw [List.size_toArray, List.length_flatten, List.map_replicate, List.sum_replicate_nat, ← hz]
          refine sz1 ?_
          rw [Nat.mul_comm]
          exact h2
        refine ⟨e3, .str _, H, I.tok _, ⟨_, rfl⟩, ?_⟩
        rw [e2]
        exact q
end

/-! ### expressions -/
section
variable {B : Bs} {m m1 m2 : Bool} {env : List Sl} {P : Dt → Prop} {ta tb te tc : TE} {K : PySem.W.Frag}
theorem sel_true (F H : Hp) : sel true F H = F := rfl
theorem sel_false (F H : Hp) : sel false F H = H := rfl
theorem sel_ex {F H F' H' : Hp} (e1 : Ex F F') (e2 : Ex H H') : Ex (sel m F H) (sel m F' H') := by
  cases m with
  | true => exact e1
  | false => exact e2
theorem ex_sel {F H : Hp} (e : Ex F H) : Ex (sel m F H) H := by
  cases m with
  | true => exact e
  | false => exact Ex.refl H
theorem ev_imp {P' : Dt → Prop} (h : Ev B m te env P') (k : ∀ d, P' d → P d) : Ev B m te env P := fun F H σ E Q q => h F H σ E Q fun d v F' H' hp => q d v F' H' (k d hp)
theorem ev_weak (h : Ev B true te env P) : Ev B m te env P := fun F H σ E Q q => h F H σ E Q fun d v F' H' hp E' e1 r => q d v F' H' hp E' e1 (Rp.sel E'.fh r)
/-- a value that no heap bears -/
def Sc : Dt → Prop
  | .non => True
  | .bl _ => True
  | .int _ => True
  | .str _ => True
  | _ => False
theorem Rp.sc {H H' : Hp} {d : Dt} {v : V} (s : Sc d) (h : Rp H d v) : Rp H' d v := by
  cases d with
  | non => rw [Rp.non_iff] at h ⊢; exact h
  | bl b => rw [Rp.bl_iff] at h ⊢; exact h
  | int b => rw [Rp.int_iff] at h ⊢; exact h
  | str b => rw [Rp.str_iff] at h ⊢; exact h
  | _ => exact s.elim
theorem ev_sc (h : Ev B false te env fun d => Sc d ∧ P d) : Ev B m te env P := fun F H σ E Q q => h F H σ E Q fun d v F' H' hp E' e1 r => q d v F' H' hp.2 E' e1 (Rp.sc hp.1 r)
theorem ev_var {i : Nat} {d : Dt} (h : env[i]? = some (.dat d)) (hp : P d) : Ev B m (tVar i) env P := fun F H σ E Q q => by
  obtain ⟨v, h1, h2⟩ := E.dat h
  exact ⟨v, h1, q d v F H hp E (Gr.refl F H) (Rp.sel E.fh h2)⟩
theorem ev_own {i : Nat} {xs : List Dt} (h : env[i]? = some (.own xs)) (hp : P (.list xs)) : Ev B false (tVar i) env P := fun F H σ E Q q => by
  obtain ⟨p, vs, h1, h2, h3, h4, h5⟩ := E.own h
  exact ⟨.ref p, h1, q _ _ F H hp E (Gr.refl F H) (Rp.list_iff.mpr ⟨p, vs, rfl, h4, RpAll.mono E.fh xs h5⟩)⟩
theorem ev_int {i : Int} (hp : P (.int i)) : Ev B m (tC (.int i)) env P := fun F H σ E Q q => q _ _ F H hp E (Gr.refl F H) (Rp.int_iff.mpr rfl)
theorem ev_bl {b : Bool} (hp : P (.bl b)) : Ev B m (tC (.bl b)) env P := fun F H σ E Q q => q _ _ F H hp E (Gr.refl F H) (Rp.bl_iff.mpr rfl)
theorem ev_non (hp : P .non) : Ev B m (tC .non) env P := fun F H σ E Q q => q _ _ F H hp E (Gr.refl F H) (Rp.non_iff.mpr rfl)
theorem ev_str {z : Str} {x : List Nat} (e : z = S x) (hp : P (.str x)) : Ev B m (tC (.str z)) env P := fun F H σ E Q q => q _ _ F H hp E (Gr.refl F H) (Rp.str_iff.mpr (by rw [e]))
/-- two operands and an operation -/
theorem ev_op2 {r : R2} {P2 : Dt → Dt → Prop} (h : Ev B m1 ta env fun x => Ev B m2 tb env fun y => P2 x y)
    (hr : ∀ dx dy x y F H σ (Q : VK), EnvOk B F H σ env → Rp (sel m1 F H) dx x → Rp (sel m2 F H) dy y → P2 dx dy → (∀ d v F' H', P d → EnvOk B F' H' σ env → Gr F H F' H' → Rp (sel m F' H') d v → Q v H') → r x y H Q) :
    Ev B m (tOp r ta tb) env P := fun F H σ E Q q => h F H σ E _ fun dx x F1 H1 h1 E1 a1 r1 => h1 F1 H1 σ E1 _ fun dy y F2 H2 h2 E2 a2 r2 =>
  hr dx dy x y F2 H2 σ Q E2 (Rp.mono (sel_ex a2.f a2.h) dx r1) r2 h2 fun d v F' H' hp E' a3 r3 => q d v F' H' hp E' ((a1.trans a2).trans a3) r3
theorem ev_op1 {r : V → Hp → VK → Prop} {P1 : Dt → Prop} (h : Ev B m1 ta env P1)
    (hr : ∀ dx x F H σ (Q : VK), EnvOk B F H σ env → Rp (sel m1 F H) dx x → P1 dx → (∀ d v F' H', P d → EnvOk B F' H' σ env → Gr F H F' H' → Rp (sel m F' H') d v → Q v H') → r x H Q) :
    Ev B m (tUn r ta) env P := fun F H σ E Q q => h F H σ E _ fun dx x F1 H1 h1 E1 a1 r1 =>
  hr dx x F1 H1 σ Q E1 r1 h1 fun d v F' H' hp E' a3 r3 => q d v F' H' hp E' (a1.trans a3) r3
theorem ev_ii {f : Int → Int → Int} (h : Ev B false ta env fun x => Ev B false tb env fun y => ∃ i j, x = .int i ∧ y = .int j ∧ P (.int (f i j))) : Ev B m (tOp (rI0 fun i j => .int (f i j)) ta tb) env P :=
  ev_op2 h fun dx dy x y F H σ Q E rx ry hp k => by
    obtain ⟨i, j, rfl, rfl, hp⟩ := hp
    exact ⟨i, j, Rp.int_iff.mp rx, Rp.int_iff.mp ry, k _ _ F H hp E (Gr.refl F H) (Rp.int_iff.mpr rfl)⟩
theorem ev_iiC {C : Int → Int → Prop} {f : Int → Int → Int} (h : Ev B false ta env fun x => Ev B false tb env fun y => ∃ i j, x = .int i ∧ y = .int j ∧ C i j ∧ P (.int (f i j))) : Ev B m (tOp (rI C fun i j => .int (f i j)) ta tb) env P :=
  ev_op2 h fun dx dy x y F H σ Q E rx ry hp k => by
    obtain ⟨i, j, rfl, rfl, hc, hp⟩ := hp
    exact ⟨i, j, Rp.int_iff.mp rx, Rp.int_iff.mp ry, hc, k _ _ F H hp E (Gr.refl F H) (Rp.int_iff.mpr rfl)⟩
theorem ev_ib {f : Int → Int → Bool} (h : Ev B false ta env fun x => Ev B false tb env fun y => ∃ i j, x = .int i ∧ y = .int j ∧ P (.bl (f i j))) : Ev B m (tOp (rI0 fun i j => .bl (f i j)) ta tb) env P :=
  ev_op2 h fun dx dy x y F H σ Q E rx ry hp k => by
    obtain ⟨i, j, rfl, rfl, hp⟩ := hp
    exact ⟨i, j, Rp.int_iff.mp rx, Rp.int_iff.mp ry, k _ _ F H hp E (Gr.refl F H) (Rp.bl_iff.mpr rfl)⟩
theorem ev_neg (h : Ev B false ta env fun x => ∃ i, x = .int i ∧ P (.int (-i))) : Ev B m (tUn (rU fun i => .int (-i)) ta) env P :=
  ev_op1 h fun dx x F H σ Q E rx hp k => by
    obtain ⟨i, rfl, hp⟩ := hp
    exact ⟨i, Rp.int_iff.mp rx, k _ _ F H hp E (Gr.refl F H) (Rp.int_iff.mpr rfl)⟩
theorem S_app (x y : List Nat) : S x ++ S y = S (x ++ y) := by
  show (⟨x.toArray ++ y.toArray⟩ : Str) = ⟨(x ++ y).toArray⟩
  rw [List.append_toArray]
theorem ev_addS (h : Ev B false ta env fun x => Ev B false tb env fun y => ∃ i j, x = .str i ∧ y = .str j ∧ i.length + j.length ≤ 1000000 ∧ P (.str (i ++ j))) : Ev B m (tOp rAddS ta tb) env P :=
  ev_op2 h fun dx dy x y F H σ Q E rx ry hp k => by
    obtain ⟨i, j, rfl, rfl, hc, hp⟩ := hp
    refine ⟨S i, S j, Rp.str_iff.mp rx, Rp.str_iff.mp ry, by rw [S_len, S_len]; exact sz1 hc, ?_⟩
    rw [S_app]
    exact k _ _ F H hp E (Gr.refl F H) (Rp.str_iff.mpr rfl)
theorem ev_mulS (h : Ev B false ta env fun x => Ev B false tb env fun y => ∃ (z : List Nat) (n : Int), x = .str z ∧ y = .int n ∧ -1000000 ≤ n ∧ n ≤ 1000000 ∧ z.length * n.toNat ≤ 1000000 ∧ P (.str (List.replicate n.toNat z).flatten)) : Ev B m (tOp rMulS ta tb) env P :=
  ev_op2 h fun dx dy x y F H σ Q E rx ry hp k => by
    obtain ⟨i, j, rfl, rfl, h1, h2, h3, hp⟩ := hp
    refine ⟨S i, j, Rp.str_iff.mp rx, Rp.int_iff.mp ry, by omega, by omega, by rw [S_len]; exact h3, ?_⟩
    exact k _ _ F H hp E (Gr.refl F H) (Rp.str_iff.mpr rfl)
/-- a comparison of two scalars -/
def EqP (b : Bool) (P : Dt → Prop) : Dt → Dt → Prop
  | .int i, .int j => P (.bl (b ^^ decide (i = j)))
  | .str i, .str j => P (.bl (b ^^ decide (i = j)))
  | .bl i, .bl j => P (.bl (b ^^ decide (i = j)))
  | _, _ => False
theorem eqP_V {P : Dt → Prop} {dx dy : Dt} {x y : V} {H : Hp} {b : Bool} (h : EqP b P dx dy) (rx : Rp H dx x) (ry : Rp H dy y) : scal x y = true ∧ P (.bl (b ^^ decide (x = y))) := by
  cases dx with
  | int i =>
    cases dy with
    | int j =>
      rw [Rp.int_iff.mp rx, Rp.int_iff.mp ry]
      refine ⟨rfl, ?_⟩
      have : decide (V.int i = V.int j) = decide (i = j) := by simp
      rw [this]; exact h
    | _ => exact h.elim
  | str i =>
    cases dy with
    | str j =>
      rw [Rp.str_iff.mp rx, Rp.str_iff.mp ry]
      refine ⟨rfl, ?_⟩
      have : decide (V.str (S i) = V.str (S j)) = decide (i = j) := by
        by_cases e : i = j
        · subst e; simp
        · have : ¬ S i = S j := fun z => e (S_inj z)
          simp [e, this]
      rw [this]; exact h
    | _ => exact h.elim
  | bl i =>
    cases dy with
    | bl j =>
      rw [Rp.bl_iff.mp rx, Rp.bl_iff.mp ry]
      refine ⟨rfl, ?_⟩
      have : decide (V.bl i = V.bl j) = decide (i = j) := by simp
      rw [this]; exact h
    | _ => exact h.elim
  | _ => exact h.elim
theorem ev_eq (h : Ev B false ta env fun x => Ev B false tb env fun y => EqP false P x y) : Ev B m (tOp rEq ta tb) env P :=
  ev_op2 h fun dx dy x y F H σ Q E rx ry hp k => by
    obtain ⟨h1, h2⟩ := eqP_V hp rx ry
    refine ⟨h1, ?_⟩
    have := k _ (.bl (false ^^ decide (x = y))) F H h2 E (Gr.refl F H) (Rp.bl_iff.mpr rfl)
    rwa [Bool.false_xor] at this
theorem ev_ne (h : Ev B false ta env fun x => Ev B false tb env fun y => EqP true P x y) : Ev B m (tOp rNe ta tb) env P :=
  ev_op2 h fun dx dy x y F H σ Q E rx ry hp k => by
    obtain ⟨h1, h2⟩ := eqP_V hp rx ry
    refine ⟨h1, ?_⟩
    have := k _ (.bl (true ^^ decide (x = y))) F H h2 E (Gr.refl F H) (Rp.bl_iff.mpr rfl)
    rwa [Bool.true_xor] at this
theorem ev_ltS (h : Ev B false ta env fun x => Ev B false tb env fun y => ∃ i j, x = .str i ∧ y = .str j ∧ P (.bl (decide (i < j)))) : Ev B m (tOp rLtS ta tb) env P :=
  ev_op2 h fun dx dy x y F H σ Q E rx ry hp k => by
    obtain ⟨i, j, rfl, rfl, hp⟩ := hp
    exact ⟨S i, S j, Rp.str_iff.mp rx, Rp.str_iff.mp ry, k _ _ F H hp E (Gr.refl F H) (Rp.bl_iff.mpr rfl)⟩
theorem ev_gtS (h : Ev B false ta env fun x => Ev B false tb env fun y => ∃ i j, x = .str i ∧ y = .str j ∧ P (.bl (decide (j < i)))) : Ev B m (tOp rGtS ta tb) env P :=
  ev_op2 h fun dx dy x y F H σ Q E rx ry hp k => by
    obtain ⟨i, j, rfl, rfl, hp⟩ := hp
    exact ⟨S i, S j, Rp.str_iff.mp rx, Rp.str_iff.mp ry, k _ _ F H hp E (Gr.refl F H) (Rp.bl_iff.mpr rfl)⟩
theorem ev_leS (h : Ev B false ta env fun x => Ev B false tb env fun y => ∃ i j, x = .str i ∧ y = .str j ∧ P (.bl (!decide (j < i)))) : Ev B m (tOp rLeS ta tb) env P :=
  ev_op2 h fun dx dy x y F H σ Q E rx ry hp k => by
    obtain ⟨i, j, rfl, rfl, hp⟩ := hp
    exact ⟨S i, S j, Rp.str_iff.mp rx, Rp.str_iff.mp ry, k _ _ F H hp E (Gr.refl F H) (Rp.bl_iff.mpr rfl)⟩
theorem ev_geS (h : Ev B false ta env fun x => Ev B false tb env fun y => ∃ i j, x = .str i ∧ y = .str j ∧ P (.bl (!decide (i < j)))) : Ev B m (tOp rGeS ta tb) env P :=
  ev_op2 h fun dx dy x y F H σ Q E rx ry hp k => by
    obtain ⟨i, j, rfl, rfl, hp⟩ := hp
    exact ⟨S i, S j, Rp.str_iff.mp rx, Rp.str_iff.mp ry, k _ _ F H hp E (Gr.refl F H) (Rp.bl_iff.mpr rfl)⟩
/-- is None -/
def isNn : Dt → Bool
  | .non => true
  | _ => false
theorem isNn_V {d : Dt} {v : V} {H : Hp} (r : Rp H d v) : decide (v = .non) = isNn d := by
  cases d with
  | non => rw [Rp.non_iff.mp r]; rfl
  | bl b => rw [Rp.bl_iff.mp r]; rfl
  | int b => rw [Rp.int_iff.mp r]; rfl
  | str b => rw [Rp.str_iff.mp r]; rfl
  | list xs => obtain ⟨a, vs, rfl, _⟩ := Rp.list_iff.mp r; rfl
  | tup xs => obtain ⟨a, vs, rfl, _⟩ := Rp.tup_iff.mp r; rfl
  | deck => obtain ⟨a, rfl, _⟩ := Rp.deck_iff.mp r; rfl
  | raw a => rw [Rp.raw_iff.mp r]; rfl
theorem ev_isNn (h : Ev B false ta env fun x => P (.bl (isNn x))) : Ev B m (tOp rIsNn ta (tC .non)) env P :=
  ev_op2 (m2 := false) (P2 := fun x y => y = .non ∧ P (.bl (isNn x))) (ev_imp h fun x hp => ev_non ⟨rfl, hp⟩) fun dx dy x y F H σ Q E rx ry hp k => by
    obtain ⟨rfl, hp⟩ := hp
    refine ⟨Rp.non_iff.mp ry, ?_⟩
    rw [isNn_V rx]
    exact k _ _ F H hp E (Gr.refl F H) (Rp.bl_iff.mpr rfl)
theorem ev_notNn (h : Ev B false ta env fun x => P (.bl (!isNn x))) : Ev B m (tOp rNotNn ta (tC .non)) env P :=
  ev_op2 (m2 := false) (P2 := fun x y => y = .non ∧ P (.bl (!isNn x))) (ev_imp h fun x hp => ev_non ⟨rfl, hp⟩) fun dx dy x y F H σ Q E rx ry hp k => by
    obtain ⟨rfl, hp⟩ := hp
    refine ⟨Rp.non_iff.mp ry, ?_⟩
    rw [isNn_V rx]
    exact k _ _ F H hp E (Gr.refl F H) (Rp.bl_iff.mpr rfl)
/-- x is True, x is not True, x a bool -/
theorem ev_isBl (h : Ev B false ta env fun x => Ev B false tb env fun y => ∃ i j, x = .bl i ∧ y = .bl j ∧ P (.bl (decide (i = j)))) : Ev B m (tOp rIsB ta tb) env P :=
  ev_op2 h fun dx dy x y F H σ Q E rx ry hp k => by
    obtain ⟨i, j, rfl, rfl, hp⟩ := hp
    exact ⟨i, j, Rp.bl_iff.mp rx, Rp.bl_iff.mp ry, k _ _ F H hp E (Gr.refl F H) (Rp.bl_iff.mpr rfl)⟩
theorem ev_notBl (h : Ev B false ta env fun x => Ev B false tb env fun y => ∃ i j, x = .bl i ∧ y = .bl j ∧ P (.bl (!decide (i = j)))) : Ev B m (tOp rNotB ta tb) env P :=
  ev_op2 h fun dx dy x y F H σ Q E rx ry hp k => by
    obtain ⟨i, j, rfl, rfl, hp⟩ := hp
    exact ⟨i, j, Rp.bl_iff.mp rx, Rp.bl_iff.mp ry, k _ _ F H hp E (Gr.refl F H) (Rp.bl_iff.mpr rfl)⟩
theorem ev_notV (h : Ev B false ta env fun x => ∃ b, x = .bl b ∧ P (.bl (!b))) : Ev B m (tNotV ta) env P := fun F H σ E Q q => h F H σ E _ fun dx x F1 H1 h1 E1 a1 r1 => by
  obtain ⟨b, rfl, hp⟩ := h1
  exact ⟨b, Rp.bl_iff.mp r1, q _ _ F1 H1 hp E1 a1 (Rp.bl_iff.mpr rfl)⟩
theorem ev_andV (h : Ev B false ta env fun x => ∃ b, x = .bl b ∧ (b = true → Ev B m tb env P) ∧ (b = false → P (.bl false))) : Ev B m (tAndV ta tb) env P := fun F H σ E Q q => h F H σ E _ fun dx x F1 H1 h1 E1 a1 r1 => by
  obtain ⟨b, rfl, h2, h3⟩ := h1
  refine ⟨b, Rp.bl_iff.mp r1, ?_⟩
  cases b with
  | true => exact h2 rfl F1 H1 σ E1 Q fun d v F' H' hp E' a2 r2 => q d v F' H' hp E' (a1.trans a2) r2
  | false => exact q _ _ F1 H1 (h3 rfl) E1 a1 (Rp.bl_iff.mpr rfl)
theorem ev_orV (h : Ev B false ta env fun x => ∃ b, x = .bl b ∧ (b = false → Ev B m tb env P) ∧ (b = true → P (.bl true))) : Ev B m (tOrV ta tb) env P := fun F H σ E Q q => h F H σ E _ fun dx x F1 H1 h1 E1 a1 r1 => by
  obtain ⟨b, rfl, h2, h3⟩ := h1
  refine ⟨b, Rp.bl_iff.mp r1, ?_⟩
  cases b with
  | false => exact h2 rfl F1 H1 σ E1 Q fun d v F' H' hp E' a2 r2 => q d v F' H' hp E' (a1.trans a2) r2
  | true => exact q _ _ F1 H1 (h3 rfl) E1 a1 (Rp.bl_iff.mpr rfl)
/-- a if t else b -/
theorem ev_if {tt : TT} (h : Et B tt env (Ev B m ta env P) (Ev B m tb env P)) : Ev B m (tIf tt ta tb) env P := fun F H σ E Q q => h F H σ E _
  (fun h1 F1 H1 E1 a1 => h1 F1 H1 σ E1 Q fun d v F' H' hp E' a2 r2 => q d v F' H' hp E' (a1.trans a2) r2)
  (fun h1 F1 H1 E1 a1 => h1 F1 H1 σ E1 Q fun d v F' H' hp E' a2 r2 => q d v F' H' hp E' (a1.trans a2) r2)
end

/-! ### tests -/
section
variable {B : Bs} {m : Bool} {env : List Sl} {PT PF PT' PF' : Prop} {ta tb te tc : TE} {t u : TT}
theorem et_imp (h : Et B t env PT' PF') (h1 : PT' → PT) (h2 : PF' → PF) : Et B t env PT PF := fun F H σ E Q q1 q2 => h F H σ E Q (fun z => q1 (h1 z)) (fun z => q2 (h2 z))
theorem et_test (h : Ev B false te env fun x => ∃ b, x = .bl b ∧ (b = true → PT) ∧ (b = false → PF)) : Et B (tTest te) env PT PF := fun F H σ E Q q1 q2 => h F H σ E _ fun dx x F1 H1 h1 E1 a1 r1 => by
  obtain ⟨b, rfl, h2, h3⟩ := h1
  refine ⟨b, Rp.bl_iff.mp r1, ?_⟩
  cases b with
  | true => exact q1 (h2 rfl) F1 H1 E1 a1
  | false => exact q2 (h3 rfl) F1 H1 E1 a1
theorem et_B (h : Ev B false te env fun x => ∃ b, x = .bl b ∧ (b = true → PT) ∧ (b = false → PF)) : Et B (tB te) env PT PF := et_test h
theorem et_not (h : Et B t env PF PT) : Et B (tNot t) env PT PF := fun F H σ E Q q1 q2 => h F H σ E _ (fun z => q2 z) (fun z => q1 z)
theorem et_and (h : Et B t env (Et B u env PT PF) PF) : Et B (tAnd t u) env PT PF := fun F H σ E Q q1 q2 => h F H σ E _
  (fun z F1 H1 E1 a1 => by
    show u σ H1 Q
    exact z F1 H1 σ E1 Q (fun y F2 H2 E2 a2 => q1 y F2 H2 E2 (a1.trans a2)) (fun y F2 H2 E2 a2 => q2 y F2 H2 E2 (a1.trans a2)))
  (fun z F1 H1 E1 a1 => by
    show Q false H1
    exact q2 z F1 H1 E1 a1)
theorem et_or (h : Et B t env PT (Et B u env PT PF)) : Et B (tOr t u) env PT PF := fun F H σ E Q q1 q2 => h F H σ E _
  (fun z F1 H1 E1 a1 => by
    show Q true H1
    exact q1 z F1 H1 E1 a1)
  (fun z F1 H1 E1 a1 => by
    show u σ H1 Q
    exact z F1 H1 σ E1 Q (fun y F2 H2 E2 a2 => q1 y F2 H2 E2 (a1.trans a2)) (fun y F2 H2 E2 a2 => q2 y F2 H2 E2 (a1.trans a2)))
theorem et_ib {R : Int → Int → Prop} [∀ i j, Decidable (R i j)] (h : Ev B false ta env fun x => Ev B false tb env fun y => ∃ i j, x = .int i ∧ y = .int j ∧ (R i j → PT) ∧ (¬ R i j → PF)) : Et B (tTest (tOp (rI0 fun i j => .bl (decide (R i j))) ta tb)) env PT PF :=
  et_test (ev_ib (f := fun i j => decide (R i j)) (ev_imp h fun x hx => ev_imp hx fun y hy => by
    obtain ⟨i, j, rfl, rfl, h1, h2⟩ := hy
    exact ⟨i, j, rfl, rfl, _, rfl, fun z => h1 (of_decide_eq_true z), fun z => h2 (of_decide_eq_false z)⟩))
def EqT (PT PF : Prop) : Dt → Dt → Prop
  | .int i, .int j => (i = j → PT) ∧ (i ≠ j → PF)
  | .str i, .str j => (i = j → PT) ∧ (i ≠ j → PF)
  | .bl i, .bl j => (i = j → PT) ∧ (i ≠ j → PF)
  | _, _ => False
theorem eqT_P {b : Bool} {x y : Dt} {A C : Prop} (h : EqT A C x y) : EqP b (fun z => ∃ c, z = .bl c ∧ (c = !b → A) ∧ (c = b → C)) x y := by
  cases x with
  | int i =>
    cases y with
    | int j =>
      refine ⟨_, rfl, fun z => h.1 ?_, fun z => h.2 ?_⟩
      · by_cases e : i = j
        · exact e
        · rw [decide_eq_false e] at z; cases b <;> cases z
      · intro e
        rw [decide_eq_true e] at z; cases b <;> cases z
    | _ => exact h.elim
  | str i =>
    cases y with
    | str j =>
      refine ⟨_, rfl, fun z => h.1 ?_, fun z => h.2 ?_⟩
      · by_cases e : i = j
        · exact e
        · rw [decide_eq_false e] at z; cases b <;> cases z
      · intro e
        rw [decide_eq_true e] at z; cases b <;> cases z
    | _ => exact h.elim
  | bl i =>
    cases y with
    | bl j =>
      refine ⟨_, rfl, fun z => h.1 ?_, fun z => h.2 ?_⟩
      · by_cases e : i = j
        · exact e
        · rw [decide_eq_false e] at z; cases b <;> cases z
      · intro e
        rw [decide_eq_true e] at z; cases b <;> cases z
    | _ => exact h.elim
  | _ => exact h.elim
theorem et_eq (h : Ev B false ta env fun x => Ev B false tb env fun y => EqT PT PF x y) : Et B (tTest (tOp rEq ta tb)) env PT PF :=
  et_test (ev_eq (ev_imp h fun x hx => ev_imp hx fun y hy => eqT_P hy))
theorem et_ne (h : Ev B false ta env fun x => Ev B false tb env fun y => EqT PF PT x y) : Et B (tTest (tOp rNe ta tb)) env PT PF :=
  et_test (ev_ne (ev_imp h fun x hx => ev_imp hx fun y hy => by
    have := eqT_P (b := true) hy
    cases x <;> cases y <;> first | exact this.elim | (obtain ⟨c, e, h1, h2⟩ := this; exact ⟨c, e, h2, h1⟩)))
theorem eqT_int {i j : Int} (h1 : i = j → PT) (h2 : i ≠ j → PF) : EqT PT PF (.int i) (.int j) := ⟨h1, h2⟩
theorem eqT_str {i j : List Nat} (h1 : i = j → PT) (h2 : i ≠ j → PF) : EqT PT PF (.str i) (.str j) := ⟨h1, h2⟩
theorem eqT_bl {i j : Bool} (h1 : i = j → PT) (h2 : i ≠ j → PF) : EqT PT PF (.bl i) (.bl j) := ⟨h1, h2⟩
theorem et_ltS (h : Ev B false ta env fun x => Ev B false tb env fun y => ∃ i j, x = .str i ∧ y = .str j ∧ (i < j → PT) ∧ (¬ i < j → PF)) : Et B (tTest (tOp rLtS ta tb)) env PT PF :=
  et_test (ev_ltS (ev_imp h fun x hx => ev_imp hx fun y hy => by
    obtain ⟨i, j, rfl, rfl, h1, h2⟩ := hy
    exact ⟨i, j, rfl, rfl, _, rfl, fun z => h1 (of_decide_eq_true z), fun z => h2 (of_decide_eq_false z)⟩))
theorem et_gtS (h : Ev B false ta env fun x => Ev B false tb env fun y => ∃ i j, x = .str i ∧ y = .str j ∧ (j < i → PT) ∧ (¬ j < i → PF)) : Et B (tTest (tOp rGtS ta tb)) env PT PF :=
  et_test (ev_gtS (ev_imp h fun x hx => ev_imp hx fun y hy => by
    obtain ⟨i, j, rfl, rfl, h1, h2⟩ := hy
    exact ⟨i, j, rfl, rfl, _, rfl, fun z => h1 (of_decide_eq_true z), fun z => h2 (of_decide_eq_false z)⟩))
theorem et_leS (h : Ev B false ta env fun x => Ev B false tb env fun y => ∃ i j, x = .str i ∧ y = .str j ∧ (¬ j < i → PT) ∧ (j < i → PF)) : Et B (tTest (tOp rLeS ta tb)) env PT PF :=
  et_test (ev_leS (ev_imp h fun x hx => ev_imp hx fun y hy => by
    obtain ⟨i, j, rfl, rfl, h1, h2⟩ := hy
    exact ⟨i, j, rfl, rfl, _, rfl, fun z => h1 (by simpa using z), fun z => h2 (by simpa using z)⟩))
theorem et_geS (h : Ev B false ta env fun x => Ev B false tb env fun y => ∃ i j, x = .str i ∧ y = .str j ∧ (¬ i < j → PT) ∧ (i < j → PF)) : Et B (tTest (tOp rGeS ta tb)) env PT PF :=
  et_test (ev_geS (ev_imp h fun x hx => ev_imp hx fun y hy => by
    obtain ⟨i, j, rfl, rfl, h1, h2⟩ := hy
    exact ⟨i, j, rfl, rfl, _, rfl, fun z => h1 (by simpa using z), fun z => h2 (by simpa using z)⟩))
end
end DL

set_option Elab.async false
set_option linter.all false
set_option maxRecDepth 100000
set_option maxHeartbeats 4000000
set_option autoImplicit false
namespace DL
open PySem PySem.Spec PyProof.Rows L2

/-! ### lists -/
/-- a list whose items are frozen -/
def Es (B : Bs) (te : TE) (env : List Sl) (P : List Dt → Prop) : Prop :=
  ∀ F H σ, EnvOk B F H σ env → ∀ Q : VK, (∀ xs vs p F' H', P xs → EnvOk B F' H' σ env → Gr F H F' H' → H' p = some (.lst vs) → RpAll F' xs vs → Q (.ref p) H') → te σ H Q
def cutL {α : Type} (xs : List α) (lo hi : Option Int) : List α := (xs.drop (HT.sIx xs.length 0 lo)).take (HT.sIx xs.length xs.length hi - HT.sIx xs.length 0 lo)

section
variable {B : Bs} {m m1 m2 : Bool} {env : List Sl} {P : Dt → Prop} {PL : List Dt → Prop} {ta tb te tc : TE} {K : PySem.W.Frag}
theorem es_own {i : Nat} {xs : List Dt} (h : env[i]? = some (.own xs)) (hp : PL xs) : Es B (tVar i) env PL := fun F H σ E Q q => by
  obtain ⟨p, vs, h1, h2, h3, h4, h5⟩ := E.own h
  exact ⟨.ref p, h1, q _ _ _ F H hp E (Gr.refl F H) h4 h5⟩
theorem es_ev (h : Ev B true te env fun d => ∃ xs, d = .list xs ∧ PL xs) : Es B te env PL := fun F H σ E Q q => h F H σ E Q fun d v F' H' hp E' g r => by
  obtain ⟨xs, rfl, hp⟩ := hp
  obtain ⟨a, vs, rfl, h1, h2⟩ := Rp.list_iff.mp r
  exact q xs vs a F' H' hp E' g (E'.fh _ _ h1) h2
theorem es_el (h : El B te env PL) : Es B te env PL := fun F H σ E Q q => h F H σ E Q fun xs vs p F' H' hp E' g h1 h2 h3 r => q xs vs p F' H' hp E' g h3 r
theorem el_imp {P' : List Dt → Prop} (h : El B te env P') (k : ∀ d, P' d → PL d) : El B te env PL := fun F H σ E Q q => h F H σ E Q fun xs vs p F' H' hp => q xs vs p F' H' (k xs hp)
/-- a new list as a value -/
theorem ev_el (h : El B te env fun xs => P (.list xs)) : Ev B m te env P := fun F H σ E Q q => h F H σ E Q fun xs vs p F' H' hp E' g h1 h2 h3 r => by
  have h0 : B.H0 p = none := E.hh.back h1
  have no : ∀ (i : Nat) ys, env[i]? = some (.own ys) → σ[i]? ≠ some (some (.ref p)) := fun i ys hi hs => by
    obtain ⟨p', vs', e1, e2, e3, e4, e5⟩ := E.own hi
    rw [hs] at e1
    cases e1
    rw [h1] at e4
    cases e4
  have E2 := E'.freezeP h0 h2 h3 no
  have g2 : Gr F H (upd F' p (.lst vs)) H' := ⟨g.f.trans (Ex.new h2), g.h, fun a o ha hn => by
    by_cases e : a = p
    · subst e
      exact h1
    · rw [upd_ne e] at ha
      exact g.n a o ha hn⟩
  exact q _ _ _ H' hp E2 g2 (Rp.sel E2.fh (Rp.list_iff.mpr ⟨p, vs, rfl, upd_same, RpAll.mono (Ex.new h2) xs r⟩))

theorem ea_nil (h : PL []) : Ea B m tNil env PL := fun F H σ E Q q => q [] [] F H h E (Gr.refl F H) RpAll.nil
theorem ea_cons {tr : TA} (h : Ev B m te env fun d => Ea B m tr env fun ds => PL (d :: ds)) : Ea B m (tCons te tr) env PL := fun F H σ E Q q => h F H σ E _ fun d v F1 H1 h1 E1 g1 r1 =>
  h1 F1 H1 σ E1 _ fun ds vs F2 H2 h2 E2 g2 r2 => q (d :: ds) (v :: vs) F2 H2 h2 E2 (g1.trans g2) (RpAll.cons (Rp.mono (sel_ex g2.f g2.h) d r1) r2)
theorem ea_imp {ta : TA} {P' : List Dt → Prop} (h : Ea B m ta env P') (k : ∀ d, P' d → PL d) : Ea B m ta env PL := fun F H σ E Q q => h F H σ E Q fun ds vs F' H' hp => q ds vs F' H' (k ds hp)
/-- a tuple display -/
theorem ev_tup {ta : TA} (h : Ea B m ta env fun ds => ds.length ≤ 1000000 ∧ P (.tup ds)) : Ev B m (tTup ta) env P := fun F H σ E Q q => h F H σ E _ fun ds vs F1 H1 h1 E1 g1 r1 =>
  ⟨by rw [← r1.length]; exact sz1 h1.1, fun p hp => by
    cases m with
    | true =>
      have E2 := E1.alloc (.tup vs) hp
      exact q _ _ _ _ h1.2 E2 (g1.trans (Gr.alloc E1.fh hp)) (Rp.tup_iff.mpr ⟨p, vs, rfl, upd_same, RpAll.mono (Ex.new (E1.fh.back hp)) ds r1⟩)
    | false =>
      have E2 := E1.allocH (.tup vs) hp
      exact q _ _ _ _ h1.2 E2 (g1.trans (Gr.allocH hp)) (Rp.tup_iff.mpr ⟨p, vs, rfl, upd_same, RpAll.mono (Ex.new hp) ds r1⟩)⟩
/-- a list display -/
theorem el_lst {ta : TA} (h : Ea B true ta env fun ds => ds.length ≤ 1000000 ∧ PL ds) : El B (tLst ta) env PL := fun F H σ E Q q => h F H σ E _ fun ds vs F1 H1 h1 E1 g1 r1 =>
  ⟨by rw [← r1.length]; exact sz1 h1.1, fun p hp => q ds vs p F1 _ h1.2 (E1.allocH (.lst vs) hp) (g1.trans (Gr.allocH hp)) (g1.h.back hp) (E1.fh.back hp) upd_same r1⟩
/-- a list display with own lists within -/
theorem ev_lstW {ta : TA} (h : Ea B false ta env fun ds => ds.length ≤ 1000000 ∧ P (.list ds)) : Ev B false (tLst ta) env P := fun F H σ E Q q => h F H σ E _ fun ds vs F1 H1 h1 E1 g1 r1 =>
  ⟨by rw [← r1.length]; exact sz1 h1.1, fun p hp => q _ _ F1 _ h1.2 (E1.allocH (.lst vs) hp) (g1.trans (Gr.allocH hp)) (Rp.list_iff.mpr ⟨p, vs, rfl, upd_same, RpAll.mono (Ex.new hp) ds r1⟩)⟩
theorem el_cat (h : Es B ta env fun xs => Es B tb env fun ys => xs.length + ys.length ≤ 1000000 ∧ PL (xs ++ ys)) : El B (tOp rCat ta tb) env PL := fun F H σ E Q q =>
  h F H σ E _ fun xs vs a F1 H1 h1 E1 g1 ha r1 => h1 F1 H1 σ E1 _ fun ys ws b F2 H2 h2 E2 g2 hb r2 =>
    ⟨a, b, vs, ws, rfl, rfl, g2.h _ _ ha, hb, by rw [← r1.length, ← r2.length]; exact sz1 h2.1, fun p hp =>
      q _ _ p F2 _ h2.2 (E2.allocH _ hp) ((g1.trans g2).trans (Gr.allocH hp)) ((g1.trans g2).h.back hp) (E2.fh.back hp) upd_same ((RpAll.mono g2.f xs r1).append r2)⟩
theorem el_rep (h : Es B ta env fun xs => Ev B false tb env fun y => ∃ n : Int, y = .int n ∧ -1000000 ≤ n ∧ n ≤ 1000000 ∧ xs.length * n.toNat ≤ 1000000 ∧ PL (List.replicate n.toNat xs).flatten) : El B (tOp rRep ta tb) env PL := fun F H σ E Q q =>
  h F H σ E _ fun xs vs a F1 H1 h1 E1 g1 ha r1 => h1 F1 H1 σ E1 _ fun y w F2 H2 h2 E2 g2 r2 => by
    obtain ⟨n, rfl, n1, n2, n3, hp⟩ := h2
    refine ⟨a, n, vs, rfl, Rp.int_iff.mp r2, g2.h _ _ ha, by omega, by omega, by rw [← r1.length]; exact sz1 n3, fun p hp' => ?_⟩
    exact q _ _ p F2 _ hp (E2.allocH _ hp') ((g1.trans g2).trans (Gr.allocH hp')) ((g1.trans g2).h.back hp') (E2.fh.back hp') upd_same (RpAll.rep (RpAll.mono g2.f xs r1) _)
theorem el_listOf (h : Es B ta env PL) : El B (tCB (rListOf K) (tCons ta tNil)) env PL := fun F H σ E Q q => h F H σ E _ fun xs vs a F1 H1 h1 E1 g1 ha r1 =>
  ⟨a, vs, rfl, .inl (SqL.of ha), fun l hl => q xs vs l F1 _ h1 (E1.allocH _ hl) (g1.trans (Gr.allocH hl)) (g1.h.back hl) (E1.fh.back hl) upd_same r1⟩
theorem el_revL (h : Es B ta env fun xs => PL xs.reverse) : El B (tRevL K ta) env PL := fun F H σ E Q q => h F H σ E _ fun xs vs a F1 H1 h1 E1 g1 ha r1 =>
  ⟨a, vs, rfl, SqL.of ha, fun l hl => q _ _ l F1 _ h1 (E1.allocH _ hl) (g1.trans (Gr.allocH hl)) (g1.h.back hl) (E1.fh.back hl) upd_same r1.reverse⟩

theorem RpAll.atI {H : Hp} {xs : List Dt} {vs : List V} {i : Int} {d : Dt} (r : RpAll H xs vs) (h : L2.atI xs i = some d) : ∃ v, L2.atI vs i = some v ∧ Rp H d v := by
  unfold L2.atI at h ⊢
  rw [← r.length]
  cases e : ixN xs.length i with
  | none => rw [e] at h; cases h
  | some j =>
    rw [e] at h
    exact r.get h
/-- xs[i] -/
theorem ev_ixL (h : Es B ta env fun xs => Ev B false tb env fun y => ∃ (i : Int) (d : Dt), y = .int i ∧ L2.atI xs i = some d ∧ P d) : Ev B m (tOp (rIxL K) ta tb) env P := fun F H σ E Q q =>
  h F H σ E _ fun xs vs a F1 H1 h1 E1 g1 ha r1 => h1 F1 H1 σ E1 _ fun y w F2 H2 h2 E2 g2 r2 => by
    obtain ⟨i, d, rfl, hi, hp⟩ := h2
    obtain ⟨v, hv, rv⟩ := r1.atI hi
    exact ⟨a, vs, i, v, rfl, Rp.int_iff.mp r2, SqL.of (g2.h _ _ ha), hv, q d v F2 H2 hp E2 (g1.trans g2) (Rp.sel E2.fh (Rp.mono g2.f d rv))⟩
theorem ev_ixT (h : Ev B m ta env fun x => Ev B false tb env fun y => ∃ (xs : List Dt) (i : Int) (d : Dt), x = .tup xs ∧ y = .int i ∧ L2.atI xs i = some d ∧ P d) : Ev B m (tOp (rIxT K) ta tb) env P :=
  ev_op2 h fun dx dy x y F H σ Q E rx ry hp k => by
    obtain ⟨xs, i, d, rfl, rfl, hi, hp⟩ := hp
    obtain ⟨a, vs, rfl, h1, h2⟩ := Rp.tup_iff.mp rx
    obtain ⟨v, hv, rv⟩ := h2.atI hi
    exact ⟨a, vs, i, v, rfl, Rp.int_iff.mp ry, SqT.of (ex_sel E.fh _ _ h1), hv, k d v F H hp E (Gr.refl F H) rv⟩
theorem ev_ixS (h : Ev B false ta env fun x => Ev B false tb env fun y => ∃ (xs : List Nat) (i : Int) (c : Nat), x = .str xs ∧ y = .int i ∧ xs.length ≤ 1000000 ∧ L2.atI xs i = some c ∧ P (.str [c])) : Ev B m (tOp rIxS ta tb) env P :=
  ev_op2 h fun dx dy x y F H σ Q E rx ry hp k => by
    obtain ⟨xs, i, c, rfl, rfl, hl, hi, hp⟩ := hp
    exact ⟨S xs, i, c, Rp.str_iff.mp rx, Rp.int_iff.mp ry, by rw [S_len]; exact sz1 hl, hi, k _ _ F H hp E (Gr.refl F H) (Rp.str_iff.mpr rfl)⟩

/-! slices -/
def Eo (B : Bs) (to : TO) (env : List Sl) (P : Option Int → Prop) : Prop :=
  ∀ F H σ, EnvOk B F H σ env → ∀ Q : Option Int → Hp → Prop, (∀ o F' H', P o → EnvOk B F' H' σ env → Gr F H F' H' → Q o H') → to σ H Q
theorem eo_none {P : Option Int → Prop} (h : P none) : Eo B tNoPart env P := fun F H σ E Q q => q none F H h E (Gr.refl F H)
theorem eo_some {P : Option Int → Prop} (h : Ev B false te env fun d => ∃ i, d = .int i ∧ P (some i)) : Eo B (tPart te) env P := fun F H σ E Q q => h F H σ E _ fun d v F1 H1 h1 E1 g1 r1 => by
  obtain ⟨i, rfl, hp⟩ := h1
  exact ⟨i, Rp.int_iff.mp r1, q _ F1 H1 hp E1 g1⟩
theorem ev_slS {tl th : TO} (h : Ev B false ta env fun x => Eo B tl env fun l => Eo B th env fun u => ∃ z, x = .str z ∧ z.length ≤ 1000000 ∧ P (.str (cutL z l u))) : Ev B m (tSl rSlS ta tl th) env P := fun F H σ E Q q =>
  h F H σ E _ fun d v F1 H1 h1 E1 g1 r1 => h1 F1 H1 σ E1 _ fun l F2 H2 h2 E2 g2 => h2 F2 H2 σ E2 _ fun u F3 H3 h3 E3 g3 => by
    obtain ⟨z, rfl, hz, hp⟩ := h3
    refine ⟨S z, Rp.str_iff.mp r1, by rw [S_len]; exact sz1 hz, ?_⟩
    refine q _ _ F3 H3 hp E3 ((g1.trans g2).trans g3) (Rp.str_iff.mpr ?_)
    unfold cutS cutL
    rw [S_len]
    rfl
theorem el_slL {tl th : TO} (h : Es B ta env fun xs => Eo B tl env fun l => Eo B th env fun u => PL (cutL xs l u)) : El B (tSl (rSlL K) ta tl th) env PL := fun F H σ E Q q =>
  h F H σ E _ fun xs vs a F1 H1 h1 E1 g1 ha r1 => h1 F1 H1 σ E1 _ fun l F2 H2 h2 E2 g2 => h2 F2 H2 σ E2 _ fun u F3 H3 h3 E3 g3 => by
    refine ⟨a, vs, rfl, SqL.of (g3.h _ _ (g2.h _ _ ha)), fun p hp => ?_⟩
    have g := (g1.trans g2).trans g3
    refine q _ _ p F3 _ h3 (E3.allocH _ hp) (g.trans (Gr.allocH hp)) (g.h.back hp) (E3.fh.back hp) upd_same ?_
    unfold cutV cutL
    rw [← r1.length]
    exact ((RpAll.mono (g2.trans g3).f xs r1).drop _).take _

/-! built-in calls -/
theorem ev_lenS (h : Ev B false ta env fun x => ∃ z, x = .str z ∧ z.length ≤ 1000000 ∧ P (.int z.length)) : Ev B m (tCB rLenS (tCons ta tNil)) env P := fun F H σ E Q q => h F H σ E _ fun d v F1 H1 h1 E1 g1 r1 => by
  obtain ⟨z, rfl, hz, hp⟩ := h1
  refine ⟨S z, by rw [Rp.str_iff.mp r1], by rw [S_len]; exact sz1 hz, ?_⟩
  rw [S_len]
  exact q _ _ F1 H1 hp E1 g1 (Rp.int_iff.mpr rfl)
def LenP (P : Dt → Prop) : Dt → Prop
  | .list xs => P (.int xs.length)
  | .tup xs => P (.int xs.length)
  | _ => False
theorem ev_lenL (h : Ev B false ta env (LenP P)) : Ev B m (tCB (rLenL K) (tCons ta tNil)) env P := fun F H σ E Q q => h F H σ E _ fun d v F1 H1 h1 E1 g1 r1 => by
  cases d with
  | list xs =>
    obtain ⟨a, vs, rfl, ha, hr⟩ := Rp.list_iff.mp r1
    refine ⟨a, vs, rfl, .inl (SqL.of ha), ?_⟩
    rw [← hr.length]
    exact q _ _ F1 H1 h1 E1 g1 (Rp.int_iff.mpr rfl)
  | tup xs =>
    obtain ⟨a, vs, rfl, ha, hr⟩ := Rp.tup_iff.mp r1
    refine ⟨a, vs, rfl, .inr (SqT.of ha), ?_⟩
    rw [← hr.length]
    exact q _ _ F1 H1 h1 E1 g1 (Rp.int_iff.mpr rfl)
  | _ => exact h1.elim
/-- the deck's length -/
theorem ev_abs (h : Ev B false ta env fun x => ∃ i : Int, x = .int i ∧ P (.int (if i < 0 then -i else i))) : Ev B m (tCB rAbs (tCons ta tNil)) env P := fun F H σ E Q q => h F H σ E _ fun d v F1 H1 h1 E1 g1 r1 => by
  obtain ⟨i, rfl, hp⟩ := h1
  exact ⟨i, by rw [Rp.int_iff.mp r1], q _ _ F1 H1 hp E1 g1 (Rp.int_iff.mpr rfl)⟩
theorem ev_int1 (h : Ev B false ta env fun x => (∃ i : Int, x = .int i ∧ P (.int i)) ∨ ∃ b : Bool, x = .bl b ∧ P (.int (if b then 1 else 0))) : Ev B m (tCB rInt1 (tCons ta tNil)) env P := fun F H σ E Q q => h F H σ E _ fun d v F1 H1 h1 E1 g1 r1 => by
  rcases h1 with ⟨i, rfl, hp⟩ | ⟨b, rfl, hp⟩
  · exact .inl ⟨i, by rw [Rp.int_iff.mp r1], q _ _ F1 H1 hp E1 g1 (Rp.int_iff.mpr rfl)⟩
  · exact .inr ⟨b, by rw [Rp.bl_iff.mp r1], q _ _ F1 H1 hp E1 g1 (Rp.int_iff.mpr rfl)⟩
theorem ev_max2 (h : Ev B false ta env fun x => Ev B false tb env fun y => ∃ i j : Int, x = .int i ∧ y = .int j ∧ P (.int (max i j))) : Ev B m (tCB rMax2' (tCons ta (tCons tb tNil))) env P := fun F H σ E Q q =>
  h F H σ E _ fun d v F1 H1 h1 E1 g1 r1 => h1 F1 H1 σ E1 _ fun d2 v2 F2 H2 h2 E2 g2 r2 => by
    obtain ⟨i, j, rfl, rfl, hp⟩ := h2
    refine ⟨i, j, by rw [Rp.int_iff.mp r1, Rp.int_iff.mp r2], ?_⟩
    have e : (if j > i then j else i) = max i j := by split <;> omega
    rw [e]
    exact q _ _ F2 H2 hp E2 (g1.trans g2) (Rp.int_iff.mpr rfl)
theorem ev_min2 (h : Ev B false ta env fun x => Ev B false tb env fun y => ∃ i j : Int, x = .int i ∧ y = .int j ∧ P (.int (min i j))) : Ev B m (tCB rMin2' (tCons ta (tCons tb tNil))) env P := fun F H σ E Q q =>
  h F H σ E _ fun d v F1 H1 h1 E1 g1 r1 => h1 F1 H1 σ E1 _ fun d2 v2 F2 H2 h2 E2 g2 r2 => by
    obtain ⟨i, j, rfl, rfl, hp⟩ := h2
    refine ⟨i, j, by rw [Rp.int_iff.mp r1, Rp.int_iff.mp r2], ?_⟩
    have e : (if j < i then j else i) = min i j := by split <;> omega
    rw [e]
    exact q _ _ F2 H2 hp E2 (g1.trans g2) (Rp.int_iff.mpr rfl)
theorem ev_sum (h : Ev B false ta env fun x => ∃ ns : List Int, x = .list (ns.map .int) ∧ P (.int ns.sum)) : Ev B m (tCB (rSum K) (tCons ta tNil)) env P := fun F H σ E Q q => h F H σ E _ fun d v F1 H1 h1 E1 g1 r1 => by
  obtain ⟨ns, rfl, hp⟩ := h1
  obtain ⟨a, vs, rfl, ha, hr⟩ := Rp.list_iff.mp r1
  rw [RpAll.ints_iff.mp hr] at ha
  exact ⟨a, ns, rfl, SqL.of ha, q _ _ F1 H1 hp E1 g1 (Rp.int_iff.mpr rfl)⟩
theorem ev_all (h : Ev B false ta env fun x => ∃ bs : List Bool, x = .list (bs.map .bl) ∧ P (.bl (bs.all id))) : Ev B m (tCB (rAll K) (tCons ta tNil)) env P := fun F H σ E Q q => h F H σ E _ fun d v F1 H1 h1 E1 g1 r1 => by
  obtain ⟨ns, rfl, hp⟩ := h1
  obtain ⟨a, vs, rfl, ha, hr⟩ := Rp.list_iff.mp r1
  rw [RpAll.bls_iff.mp hr] at ha
  exact ⟨a, ns, rfl, SqL.of ha, q _ _ F1 H1 hp E1 g1 (Rp.bl_iff.mpr rfl)⟩
theorem ev_any (h : Ev B false ta env fun x => ∃ bs : List Bool, x = .list (bs.map .bl) ∧ P (.bl (bs.any id))) : Ev B m (tCB (rAny K) (tCons ta tNil)) env P := fun F H σ E Q q => h F H σ E _ fun d v F1 H1 h1 E1 g1 r1 => by
  obtain ⟨ns, rfl, hp⟩ := h1
  obtain ⟨a, vs, rfl, ha, hr⟩ := Rp.list_iff.mp r1
  rw [RpAll.bls_iff.mp hr] at ha
  exact ⟨a, ns, rfl, SqL.of ha, q _ _ F1 H1 hp E1 g1 (Rp.bl_iff.mpr rfl)⟩
theorem ev_maxL (h : Ev B false ta env fun x => ∃ ns : List Int, x = .list (ns.map .int) ∧ 0 < ns.length ∧ ∀ k, k ∈ ns → (∀ y ∈ ns, y ≤ k) → P (.int k)) : Ev B m (tCB (rMax K) (tCons ta tNil)) env P := fun F H σ E Q q => h F H σ E _ fun d v F1 H1 h1 E1 g1 r1 => by
  obtain ⟨ns, rfl, h0, hp⟩ := h1
  obtain ⟨a, vs, rfl, ha, hr⟩ := Rp.list_iff.mp r1
  rw [RpAll.ints_iff.mp hr] at ha
  exact ⟨a, ns, rfl, SqL.of ha, h0, fun k hk hle => q _ _ F1 H1 (hp k hk hle) E1 g1 (Rp.int_iff.mpr rfl)⟩
theorem ev_minL (h : Ev B false ta env fun x => ∃ ns : List Int, x = .list (ns.map .int) ∧ 0 < ns.length ∧ ∀ k, k ∈ ns → (∀ y ∈ ns, k ≤ y) → P (.int k)) : Ev B m (tCB (rMin K) (tCons ta tNil)) env P := fun F H σ E Q q => h F H σ E _ fun d v F1 H1 h1 E1 g1 r1 => by
  obtain ⟨ns, rfl, h0, hp⟩ := h1
  obtain ⟨a, vs, rfl, ha, hr⟩ := Rp.list_iff.mp r1
  rw [RpAll.ints_iff.mp hr] at ha
  exact ⟨a, ns, rfl, SqL.of ha, h0, fun k hk hle => q _ _ F1 H1 (hp k hk hle) E1 g1 (Rp.int_iff.mpr rfl)⟩
theorem el_sortedI (h : Ev B false ta env fun x => ∃ ns : List Int, x = .list (ns.map .int) ∧ ∀ ns' : List Int, ns'.Perm ns → ns'.Pairwise (· ≤ ·) → PL (ns'.map .int)) : El B (tCB (rSortedI K) (tCons ta tNil)) env PL := fun F H σ E Q q => h F H σ E _ fun d v F1 H1 h1 E1 g1 r1 => by
  obtain ⟨ns, rfl, hp⟩ := h1
  obtain ⟨a, vs, rfl, ha, hr⟩ := Rp.list_iff.mp r1
  rw [RpAll.ints_iff.mp hr] at ha
  exact ⟨a, ns, rfl, SqL.of ha, fun ns' p k1 k2 hl => q _ _ p F1 _ (hp ns' k1 k2) (E1.allocH _ hl) (g1.trans (Gr.allocH hl)) (g1.h.back hl) (E1.fh.back hl) upd_same (RpAll.ints ns')⟩
/-- sep.join(list of texts) -/
theorem join_S (s : List Nat) (ys : List (List Nat)) : Txt.join (S s) (ys.map S) = S (TL.joinL s ys) := by
  rw [TL.join_eq]
  refine TL.ext_tl ?_
  rw [TL.tl_join]
  have e : (ys.map S).map TL.tl = ys := by
    rw [List.map_map]
    have : TL.tl ∘ S = id := by funext x; rfl
    rw [this, List.map_id]
  rw [e]
  rfl
theorem joinL_nil : ∀ ys : List (List Nat), TL.joinL [] ys = ys.flatten
  | [] => rfl
  | [x] => by simp [TL.joinL]
  | x :: y :: r => by
    show x ++ ([] ++ TL.joinL [] (y :: r)) = _
    rw [joinL_nil (y :: r)]
    simp
theorem ev_join {to : TA} (h : Ev B false ta env fun x => ∃ s, x = .str s ∧ Ea B false to env fun ds => ∃ ys : List (List Nat), ds = [.list (ys.map .str)] ∧ (ys.map List.length).sum + ys.length * s.length ≤ 1000000 ∧ P (.str (TL.joinL s ys))) :
    Ev B m (tBM K "str" (rJoin K) ta to) env P := fun F H σ E Q q => h F H σ E _ fun d v F1 H1 h1 E1 g1 r1 => by
  obtain ⟨s, rfl, h1⟩ := h1
  rw [Rp.str_iff.mp r1]
  refine ⟨rfl, h1 F1 H1 σ E1 _ fun ds vs F2 H2 h2 E2 g2 r2 => ?_⟩
  obtain ⟨ys, rfl, hz, hp⟩ := h2
  obtain ⟨v, r, rfl, h3, h4⟩ := RpAll.cons_iff.mp r2
  rw [RpAll.nil_iff.mp h4]
  obtain ⟨a, vs, rfl, ha, hr⟩ := Rp.list_iff.mp h3
  rw [RpAll.strs_iff.mp hr] at ha
  refine ⟨S s, a, ys.map S, rfl, rfl, .inl (SqL.of ha), ?_, ?_⟩
  · rw [List.map_map, List.length_map, S_len]
    have : (fun x : Str => x.length) ∘ S = List.length := by funext x; exact S_len x
    rw [this]
    omega
  · rw [join_S]
    exact q _ _ F2 H2 hp E2 (g1.trans g2) (Rp.str_iff.mpr rfl)
/-- x in list or tuple of ints, of texts -/
def InP (neg : Bool) (P : Dt → Prop) (x y : Dt) : Prop :=
  (∃ (i : Int) (ns : List Int), x = .int i ∧ (y = .list (ns.map .int) ∨ y = .tup (ns.map .int)) ∧ P (.bl (neg ^^ decide (i ∈ ns)))) ∨
  (∃ (i : List Nat) (ns : List (List Nat)), x = .str i ∧ (y = .list (ns.map .str) ∨ y = .tup (ns.map .str)) ∧ P (.bl (neg ^^ decide (i ∈ ns))))
theorem inV_int (i : Int) (ns : List Int) : inV (.int i) (ns.map V.int) = decide (i ∈ ns) := by
  unfold inV
  rw [List.any_map]
  induction ns with
  | nil => simp
  | cons n ns ih =>
    rw [List.any_cons, ih]
    show (n == i || decide (i ∈ ns)) = _
    by_cases e : i = n
    · subst e; simp
    · have e' : ¬ n = i := fun z => e z.symm
      simp [e, e']
theorem inV_str (i : List Nat) (ns : List (List Nat)) : inV (.str (S i)) ((ns.map S).map V.str) = decide (i ∈ ns) := by
  unfold inV
  rw [List.map_map, List.any_map]
  induction ns with
  | nil => simp
  | cons n ns ih =>
    rw [List.any_cons, ih]
    show (S n == S i || decide (i ∈ ns)) = _
    by_cases e : i = n
    · subst e; simp
    · have e' : ¬ S n = S i := fun z => e (S_inj z).symm
      simp [e, e']
theorem flat_int (ns : List Int) : (ns.map V.int).all flatV = true := by
  rw [List.all_map, List.all_eq_true]
  intro x _
  rfl
theorem flat_str (ns : List Str) : (ns.map V.str).all flatV = true := by
  rw [List.all_map, List.all_eq_true]
  intro x _
  rfl
theorem ev_in {neg : Bool} (h : Ev B false ta env fun x => Ev B false tb env fun y => InP neg P x y) : Ev B m (tOp (rIn K neg) ta tb) env P :=
  ev_op2 h fun dx dy x y F H σ Q E rx ry hp k => by
    have fin : ∀ {b : Bool}, P (.bl (neg ^^ b)) → Q (.bl (if neg = true then !b else b)) H := fun {b} z => by
      have := k _ _ F H z E (Gr.refl F H) (Rp.bl_iff.mpr rfl)
      cases neg with
      | true => simpa using this
      | false => simpa using this
    rcases hp with ⟨i, ns, rfl, hy, hp⟩ | ⟨i, ns, rfl, hy, hp⟩
    · rw [Rp.int_iff.mp rx]
      rcases hy with rfl | rfl
      · obtain ⟨a, vs, rfl, ha, hr⟩ := Rp.list_iff.mp ry
        rw [RpAll.ints_iff.mp hr] at ha
        refine ⟨a, _, rfl, .inl (SqL.of ha), rfl, flat_int ns, ?_⟩
        rw [inV_int]
        exact fin hp
      · obtain ⟨a, vs, rfl, ha, hr⟩ := Rp.tup_iff.mp ry
        rw [RpAll.ints_iff.mp hr] at ha
        refine ⟨a, _, rfl, .inr (SqT.of ha), rfl, flat_int ns, ?_⟩
        rw [inV_int]
        exact fin hp
    · rw [Rp.str_iff.mp rx]
      rcases hy with rfl | rfl
      · obtain ⟨a, vs, rfl, ha, hr⟩ := Rp.list_iff.mp ry
        rw [RpAll.strs_iff.mp hr] at ha
        refine ⟨a, _, rfl, .inl (SqL.of ha), rfl, flat_str _, ?_⟩
        rw [inV_str]
        exact fin hp
      · obtain ⟨a, vs, rfl, ha, hr⟩ := Rp.tup_iff.mp ry
        rw [RpAll.strs_iff.mp hr] at ha
        refine ⟨a, _, rfl, .inr (SqT.of ha), rfl, flat_str _, ?_⟩
        rw [inV_str]
        exact fin hp

/-! ### calls of defs -/
theorem ev_call {n : Nat} {R : Rd1} {X : XK} {t : TA} (h : Ea B true t env fun ds => ds.length = n ∧ R ds P) : Ev B m (tCall (spD n R) [] X t) env P := ev_weak fun F H σ E Q q => h F H σ E _ fun ds vs F1 H1 h1 E1 g1 r1 => by
  rw [List.append_nil]
  exact ⟨F1, ds, P, h1.1, E1.fh, r1, h1.2, fun d v G' H' hp e1 e2 e3 e4 r => q d v G' H' hp (E1.gr ⟨e1, e4, e2⟩ e3) (g1.trans ⟨e1, e4, e2⟩) r⟩
theorem ev_callW {n : Nat} {R : Rd1} {X : XK} {t : TA} (h : Ea B false t env fun ds => ds.length = n ∧ R ds P) : Ev B false (tCall (spD n R) [] X t) env P := fun F H σ E Q q => h F H σ E _ fun ds vs F1 H1 h1 E1 g1 r1 => by
  rw [List.append_nil]
  exact ⟨H1, ds, P, h1.1, Ex.refl H1, r1, h1.2, fun d v G' H' hp e1 e2 e3 e4 r => q d v F1 H' hp (E1.gr (Gr.hOnly e4) (E1.fh.trans e4)) (g1.trans (Gr.hOnly e4)) (Rp.mono e3 d r)⟩
theorem el_call {n : Nat} {R : RdL} {X : XK} {t : TA} (h : Ea B true t env fun ds => ds.length = n ∧ R ds PL) : El B (tCall (spO n R) [] X t) env PL := fun F H σ E Q q => h F H σ E _ fun ds vs F1 H1 h1 E1 g1 r1 => by
  rw [List.append_nil]
  exact ⟨F1, ds, PL, h1.1, E1.fh, r1, h1.2, fun xs ws p G' H' hp e1 e2 e3 e4 p0 p1 p2 r => q xs ws p G' H' hp (E1.gr ⟨e1, e4, e2⟩ e3) (g1.trans ⟨e1, e4, e2⟩) (g1.h.back p0) p1 p2 r⟩
end

/-! ### comprehensions -/
section
variable {B : Bs} {env : List Sl} {PL : List Dt → Prop} {te tl : TE} {tt : TT} {K : PySem.W.Frag}
/-- what a comprehension's state bears: the list made so far at D -/
def CW (B : Bs) (env : List Sl) (σ : L2.St) (F1 H1 : Hp) (D : Addr) (I : List Dt → Prop) (H : Hp) : Prop :=
  ∃ F acc vs, EnvOk B F H σ env ∧ Gr F1 H1 F H ∧ F D = none ∧ H D = some (.lst vs) ∧ RpAll F acc vs ∧ I acc
theorem EnvOk.comp {B : Bs} {F H : Hp} {σ : L2.St} {env : List Sl} (E : EnvOk B F H σ env) {j : Nat} {x : V} {d : Dt} (r : Rp F d x) : EnvOk B F H ((wipe σ [j]).set j (some x)) (env.set j (.dat d)) := by
  show EnvOk B F H ((σ.set j none).set j (some x)) (env.set j (.dat d))
  rw [List.set_set]
  exact E.setDat r
/-- a list that is no slot's and not frozen is changed -/
theorem EnvOk.touch {F1 H1 F H : Hp} {σ : L2.St} {D : Addr} {o : HO} (E1 : EnvOk B F1 H1 σ env) (E : EnvOk B F H σ env) (hD : H1 D = none) (dn : F D = none) : EnvOk B F (upd H D o) σ env :=
  ⟨E.len, E.g, E.gf, E.fh.put dn, E.hh.put (E1.hh.back hD), E.gho, fun i s u e1 e2 => by
    have q := E.sl i s u e1 e2
    cases s with
    | no => trivial
    | dat d => exact q
    | own zs =>
      obtain ⟨p, ws, f1, f2, f3, f4, f5⟩ := q
      refine ⟨p, ws, f1, f2, f3, ?_, f5⟩
      have hne : p ≠ D := fun z => by
        obtain ⟨p', ws', k1, k2, k3, k4, k5⟩ := E1.own e1
        rw [e2, f1] at k1
        cases k1
        rw [z, hD] at k4
        cases k4
      rw [upd_ne hne]
      exact f4, E.sep⟩
theorem Gr.touch {F1 H1 F H : Hp} {D : Addr} {o : HO} (g : Gr F1 H1 F H) (hD : H1 D = none) : Gr F1 H1 F (upd H D o) := ⟨g.f, g.h.put hD, g.n⟩
theorem cw_turn {F1 H1 : Hp} {σ : L2.St} {Dl : Addr} {I I' : List Dt → Prop} {H : Hp} {j : Nat} {x : V} {d : Dt} (E1 : EnvOk B F1 H1 σ env) (hD : H1 Dl = none) (h : CW B env σ F1 H1 Dl I H) (hr : ∀ F, Gr F1 H1 F H → Rp F d x)
    (hj : ∀ xs, env[j]? ≠ some (.own xs))
    (hs : ∀ acc, I acc → Et B tt (env.set j (.dat d)) (Ev B true te (env.set j (.dat d)) fun y => acc.length < 1000000 ∧ I' (acc ++ [y])) (I' acc)) :
    tt ((wipe σ [j]).set j (some x)) H fun b H3 => if b = true then te ((wipe σ [j]).set j (some x)) H3 fun y H4 => ∃ acc, H4 Dl = some (.lst acc) ∧ acc.length < sizeLine ∧ CW B env σ F1 H1 Dl I' (upd H4 Dl (.lst (acc ++ [y]))) else CW B env σ F1 H1 Dl I' H3 := by
  obtain ⟨F, acc, vs, E, g, d1, hd, ra, hi⟩ := h
  have Ec := E.comp (j := j) (hr F g)
  have dno : ∀ {F4 H4 : Hp}, Gr F H F4 H4 → F4 Dl = none := fun {F4 H4} gg => by
    cases e : F4 Dl with
    | none => rfl
    | some u => rw [gg.n Dl u e d1] at hd; cases hd
  refine hs acc hi F H _ Ec _ (fun hv F3 H3 E3 g3 => ?_) (fun hi' F3 H3 E3 g3 => ?_)
  · show te _ H3 _
    refine hv F3 H3 _ E3 _ fun y w F4 H4 hy E4 g4 r4 => ?_
    have gg := g3.trans g4
    exact ⟨vs, gg.h _ _ hd, sz2 (by rw [← ra.length]; exact hy.1), F4, acc ++ [y], vs ++ [w], E1.touch (E.gr gg E4.fh) hD (dno gg), (g.trans gg).touch hD, dno gg, upd_same, (RpAll.mono gg.f acc ra).append (RpAll.cons r4 RpAll.nil), hy.2⟩
  · exact ⟨F3, acc, vs, E.gr g3 E3.fh, g.trans g3, dno g3, g3.h _ _ hd, RpAll.mono g3.f acc ra, hi'⟩
/-- one turn, by data -/
def CT (B : Bs) (tt : TT) (te : TE) (env : List Sl) (j : Nat) (INV : Nat → List Dt → Prop) (i : Nat) (d : Dt) : Prop :=
  ∀ acc, INV i acc → Et B tt (env.set j (.dat d)) (Ev B true te (env.set j (.dat d)) fun y => acc.length < 1000000 ∧ INV (i + 1) (acc ++ [y])) (INV (i + 1) acc)
theorem wipe_turn (σ : L2.St) (j : Nat) (x : V) : wipe ((wipe σ [j]).set j (some x)) [j] = wipe σ [j] := by
  show ((σ.set j none).set j (some x)).set j none = σ.set j none
  rw [List.set_set, List.set_set]
theorem cw_start {F1 H1 : Hp} {σ : L2.St} {Dl : Addr} {I : List Dt → Prop} (E1 : EnvOk B F1 H1 σ env) (hD : H1 Dl = none) (h : I []) : CW B env σ F1 H1 Dl I (upd H1 Dl (.lst [])) :=
  ⟨F1, [], [], E1.allocH _ hD, Gr.allocH hD, E1.fh.back hD, upd_same, RpAll.nil, h⟩
/-- over a list -/
theorem el_lcL {j : Nat} (hj : ∀ xs, env[j]? ≠ some (.own xs))
    (h : Es B tl env fun xs => ∃ INV : Nat → List Dt → Prop, INV 0 [] ∧ (∀ i d, xs[i]? = some d → CT B tt te env j INV i d) ∧ ∀ acc, INV xs.length acc → PL acc) : El B (tLc (iList K tl) (gName j) tt te [j]) env PL := fun F H σ E Q q =>
  h F H σ E _ fun xs vs a F1 H1 h1 E1 g1 ha r1 => by
    obtain ⟨INV, i0, it, ie⟩ := h1
    refine ⟨a, rfl, ⟨vs, SqL.of ha⟩, fun D hD => lc_list (xs := vs) (fun i H' => CW B env σ F1 H1 D (INV i) H') (cw_start E1 hD i0) (fun i H' _ ⟨F, acc, ws, E', g, _⟩ => SqL.of (g.h _ _ ha)) (fun i x H' hi p => ?_) (fun H' p => ?_)⟩
    · obtain ⟨d, hd, rd⟩ := r1.get' hi
      exact ⟨wipe_turn σ j x, cw_turn E1 hD p (fun F g => Rp.mono g.f d rd) hj (it i d hd)⟩
    · obtain ⟨F2, acc, ws, E2, g2, d2, hd2, r2, hi⟩ := p
      exact q acc ws D F2 H' (ie acc (by rw [r1.length]; exact hi)) E2 (g1.trans g2) (g1.h.back hD) d2 hd2 r2
/-- over a range -/
theorem el_lcR1 {j : Nat} {ta : TA} (hj : ∀ xs, env[j]? ≠ some (.own xs))
    (h : Ea B false ta env fun ds => ∃ n : Int, ds = [.int n] ∧ -1000000 ≤ n ∧ n ≤ 1000000 ∧ ∃ INV : Nat → List Dt → Prop, INV 0 [] ∧ (∀ i : Nat, i < n.toNat → CT B tt te env j INV i (.int i)) ∧ ∀ acc, INV n.toNat acc → PL acc) : El B (tLc (iRng1 ta) (gName j) tt te [j]) env PL := fun F H σ E Q q =>
  h F H σ E _ fun ds vs F1 H1 h1 E1 g1 r1 => by
    obtain ⟨n, rfl, n1, n2, INV, i0, it, ie⟩ := h1
    obtain ⟨v, r, rfl, h3, h4⟩ := RpAll.cons_iff.mp r1
    rw [RpAll.nil_iff.mp h4, Rp.int_iff.mp h3]
    refine ⟨n, rfl, by omega, by omega, fun D hD => lc_range (lo := 0) (n := n.toNat) (fun i H' => CW B env σ F1 H1 D (INV i) H') (cw_start E1 hD i0) (fun i H' hi p => ?_) (fun H' p => ?_)⟩
    · refine ⟨wipe_turn σ j _, cw_turn E1 hD p (fun F g => Rp.int_iff.mpr ?_) hj (it i hi)⟩
      rw [Int.zero_add]
    · obtain ⟨F2, acc, ws, E2, g2, d2, hd2, r2, hi⟩ := p
      exact q acc ws D F2 H' (ie acc hi) E2 (g1.trans g2) (g1.h.back hD) d2 hd2 r2
theorem el_lcR2 {j : Nat} {ta : TA} (hj : ∀ xs, env[j]? ≠ some (.own xs))
    (h : Ea B false ta env fun ds => ∃ lo n : Int, ds = [.int lo, .int n] ∧ (-1000000 ≤ lo ∧ lo ≤ 1000000 ∧ -1000000 ≤ n ∧ n ≤ 1000000) ∧ ∃ INV : Nat → List Dt → Prop, INV 0 [] ∧ (∀ i : Nat, i < (n - lo).toNat → CT B tt te env j INV i (.int (lo + i))) ∧ ∀ acc, INV (n - lo).toNat acc → PL acc) : El B (tLc (iRng2 ta) (gName j) tt te [j]) env PL := fun F H σ E Q q =>
  h F H σ E _ fun ds vs F1 H1 h1 E1 g1 r1 => by
    obtain ⟨lo, n, rfl, hb, INV, i0, it, ie⟩ := h1
    obtain ⟨v, r, rfl, h3, h4⟩ := RpAll.cons_iff.mp r1
    obtain ⟨v2, r2, rfl, h5, h6⟩ := RpAll.cons_iff.mp h4
    rw [RpAll.nil_iff.mp h6, Rp.int_iff.mp h3, Rp.int_iff.mp h5]
    refine ⟨lo, n, rfl, by omega, fun D hD => lc_range (lo := lo) (n := (n - lo).toNat) (fun i H' => CW B env σ F1 H1 D (INV i) H') (cw_start E1 hD i0) (fun i H' hi p => ?_) (fun H' p => ?_)⟩
    · exact ⟨wipe_turn σ j _, cw_turn E1 hD p (fun F g => Rp.int_iff.mpr rfl) hj (it i hi)⟩
    · obtain ⟨F2, acc, ws, E2, g2, d2, hd2, r2, hi⟩ := p
      exact q acc ws D F2 H' (ie acc hi) E2 (g1.trans g2) (g1.h.back hD) d2 hd2 r2
theorem et_yes {PT PF : Prop} (h : PT) : Et B tYes env PT PF := fun F H σ E Q q1 q2 => q1 h F H E (Gr.refl F H)
end

/-! ### the text's signs walked -/
theorem its_lc {x : Str} {g : TG} {tt : TT} {te : TE} {vs : List Nat} {σ : L2.St} {H1 : Hp} {D : Addr} {Qd : Hp → Prop} (Pv : Nat → Hp → Prop) (h0 : Pv 0 (upd H1 D (.lst [])))
    (hs : ∀ i c H, x.cps[i]? = some c → Pv i H → g (.str ⟨#[c]⟩) (wipe σ vs) H fun σ2 H2 => wipe σ2 vs = wipe σ vs ∧ tt σ2 H2 fun b H3 =>
      if b = true then te σ2 H3 fun y H4 => ∃ acc, H4 D = some (.lst acc) ∧ acc.length < sizeLine ∧ Pv (i + 1) (upd H4 D (.lst (acc ++ [y]))) else Pv (i + 1) H3) (hd : ∀ H, Pv x.cps.size H → Qd H) :
    ∃ W : Nat → Nat → Hp → Prop, (∃ m, W 0 m (upd H1 D (.lst []))) ∧ ∀ i m H, W i m H →
      ((Its x).stop i H ∧ Qd H) ∨ ((Its x).go i H ∧ ∃ Nx : Hp → Prop, (∀ H', Nx H' → ∃ m', m' < m ∧ W (i + 1) m' H') ∧ ∀ v H', (Its x).yld i H v H' → g v (wipe σ vs) H' fun σ2 H2 => wipe σ2 vs = wipe σ vs ∧ tt σ2 H2 fun b H3 =>
        if b = true then te σ2 H3 fun y H4 => ∃ acc, H4 D = some (.lst acc) ∧ acc.length < sizeLine ∧ Nx (upd H4 D (.lst (acc ++ [y]))) else Nx H3) := by
  refine ⟨fun i m H => m = x.cps.size - i ∧ i ≤ x.cps.size ∧ Pv i H, ⟨x.cps.size, by simp, Nat.zero_le _, h0⟩, ?_⟩
  rintro i m H ⟨rfl, hi, p⟩
  by_cases hlt : i < x.cps.size
  · refine .inr ⟨hlt, Pv (i + 1), fun H' p' => ⟨x.cps.size - (i + 1), by omega, rfl, hlt, p'⟩, fun v H' y => ?_⟩
    obtain ⟨e, c, hc, ev⟩ := y
    subst e ev
    exact hs i c _ hc p
  · have e : i = x.cps.size := by omega
    subst e
    exact .inl ⟨Nat.le_refl _, hd H p⟩
section
variable {B : Bs} {env : List Sl} {PL : List Dt → Prop} {te tl : TE} {tt : TT} {K : PySem.W.Frag}
theorem el_lcS {j : Nat} (hj : ∀ xs, env[j]? ≠ some (.own xs))
    (h : Ev B false tl env fun x => ∃ z : List Nat, x = .str z ∧ ∃ INV : Nat → List Dt → Prop, INV 0 [] ∧ (∀ i c, z[i]? = some c → CT B tt te env j INV i (.str [c])) ∧ ∀ acc, INV z.length acc → PL acc) : El B (tLc (iStr tl) (gName j) tt te [j]) env PL := fun F H σ E Q q =>
  h F H σ E _ fun d v F1 H1 h1 E1 g1 r1 => by
    obtain ⟨z, rfl, INV, i0, it, ie⟩ := h1
    have hz : (S z).cps.size = z.length := by show z.toArray.size = _; simp
    refine ⟨S z, Rp.str_iff.mp r1, fun D hD => its_lc (x := S z) (fun i H' => CW B env σ F1 H1 D (INV i) H') (cw_start E1 hD i0) (fun i c H' hi p => ?_) (fun H' p => ?_)⟩
    · have hi' : z[i]? = some c := by
        have : (S z).cps[i]? = z[i]? := by show z.toArray[i]? = _; simp
        rw [← this]; exact hi
      exact ⟨wipe_turn σ j _, cw_turn E1 hD p (fun F g => Rp.str_iff.mpr rfl) hj (it i c hi')⟩
    · obtain ⟨F2, acc, ws, E2, g2, d2, hd2, r2, hi⟩ := p
      rw [hz] at hi
      exact q acc ws D F2 H' (ie acc hi) E2 (g1.trans g2) (g1.h.back hD) d2 hd2 r2
end

/-! ### statements -/
section
variable {B : Bs} {env : List Sl} {te ta : TE} {D : Ends} {t u tb tw : TS} {tt : TT} {K : PySem.W.Frag}
theorem wp_seq (h : Wp B t env (Sq u D)) : Wp B (tSeq t u) env D := h
theorem wp_next (h : Nx B env D.nx) : Wp B tNext env D := h
theorem wp_asg {i : Nat} (h : Ev B true te env fun d => Nx B (env.set i (.dat d)) D.nx) : Wp B (tAsg te (gName i)) env D := fun F H σ E => h F H σ E _ fun d v F' H' hn E' g r => hn F' H' _ (E'.setDat r)
theorem wp_asgO {i : Nat} (h : El B te env fun xs => Nx B (env.set i (.own xs)) D.nx) : Wp B (tAsg te (gName i)) env D := fun F H σ E => h F H σ E _ fun xs vs p F' H' hn E' g h1 h2 h3 r =>
  hn F' H' _ (E'.setOwn (E.hh.back h1) h2 h3 r fun j ys _ hj hs => by
    obtain ⟨p', vs', e1, e2, e3, e4, e5⟩ := E.own hj
    rw [hs] at e1
    cases e1
    rw [h1] at e4
    cases e4)
/-- y = x, x an own list: it is y's from here on -/
theorem wp_move {i j : Nat} {xs : List Dt} (hi : env[i]? = some (.own xs)) (h : Nx B ((env.set i .no).set j (.own xs)) D.nx) : Wp B (tAsg (tVar i) (gName j)) env D := fun F H σ E => by
  obtain ⟨p, vs, h1, h2, h3, h4, h5⟩ := E.own hi
  refine ⟨.ref p, h1, h F H _ ?_⟩
  refine (E.drop i).setOwn h2 h3 h4 h5 fun k ys hk hy hs => ?_
  by_cases e : i = k
  · subst e
    have hl : i < env.length := by simpa using (List.getElem?_eq_some_iff.mp hy).1
    rw [List.getElem?_set_self hl] at hy
    cases hy
  · rw [List.getElem?_set_ne e] at hy
    exact e (E.sep i k xs ys p hi hy h1 hs)
/-- an own list is own no more -/
theorem wp_freeze {i : Nat} {xs : List Dt} (hi : env[i]? = some (.own xs)) (h : Wp B t (env.set i (.dat (.list xs))) D) : Wp B t env D := fun F H σ E => by
  obtain ⟨p, vs, h1, h2, h3, h4, h5⟩ := E.own hi
  have E1 := (E.drop i).freezeP h2 h3 h4 fun k ys hy hs => by
    by_cases e : i = k
    · subst e
      have hl : i < env.length := by simpa using (List.getElem?_eq_some_iff.mp hy).1
      rw [List.getElem?_set_self hl] at hy
      cases hy
    · rw [List.getElem?_set_ne e] at hy
      exact e (E.sep i k xs ys p hi hy h1 hs)
  have r : Rp (upd F p (.lst vs)) (.list xs) (.ref p) := Rp.list_iff.mpr ⟨p, vs, rfl, upd_same, RpAll.mono (Ex.new h3) xs h5⟩
  have E2 := E1.setDat (i := i) r
  rw [List.set_set] at E2
  have hl : i < σ.length := (List.getElem?_eq_some_iff.mp h1).1
  have es : σ.set i (some (.ref p)) = σ := by
    have := (List.getElem?_eq_some_iff.mp h1).2
    rw [← this, List.set_getElem_self]
  rw [es] at E2
  exact h _ H σ E2
theorem wp_drop (h : Ev B false te env fun _ => Nx B env D.nx) : Wp B (tDrop te) env D := fun F H σ E => h F H σ E _ fun d v F' H' hn E' g r => hn F' H' σ E'
theorem wp_ret {Φ : Dt → Prop} (hr : Rt B D.rt Φ) (h : Ev B true te env Φ) : Wp B (tRet te) env D := fun F H σ E => h F H σ E _ fun d v F' H' hp E' g r => hr d v F' H' hp E'.g (fun a o h1 h2 => E'.gf a o h1 h2) E'.fh E'.hh r
/-- an own list, or what has own lists within, is handed back -/
theorem wp_retW {Φ : Dt → Prop} (hr : ∀ d v H', Φ d → Ex B.H0 H' → Rp H' d v → D.rt v H') (h : Ev B false te env Φ) : Wp B (tRet te) env D := fun F H σ E => h F H σ E _ fun d v F' H' hp E' g r => hr d v H' hp E'.hh r
theorem wp_retN {Φ : Dt → Prop} (hr : Rt B D.rt Φ) (h : Φ .non) : Wp B tRetN env D := fun F H σ E => hr .non .non F H h E.g (fun a o h1 h2 => E.gf a o h1 h2) E.fh E.hh (Rp.non_iff.mpr rfl)
theorem wp_retO {i : Nat} {xs : List Dt} {Φ : List Dt → Prop} (hr : RtO B D.rt Φ) (hi : env[i]? = some (.own xs)) (h : Φ xs) : Wp B (tRet (tVar i)) env D := fun F H σ E => by
  obtain ⟨p, vs, h1, h2, h3, h4, h5⟩ := E.own hi
  exact ⟨.ref p, h1, hr xs vs p F H h E.g (fun a o q1 q2 => E.gf a o q1 q2) E.fh E.hh h2 h3 h4 h5⟩
theorem wp_if (h : Et B tt env (Wp B tb env D) (Wp B tw env D)) : Wp B (tIfS tt tb tw) env D := fun F H σ E => h F H σ E _
  (fun hn F' H' E' g => by
    show tb D σ H'
    exact hn F' H' σ E')
  (fun hn F' H' E' g => by
    show tw D σ H'
    exact hn F' H' σ E')
/-- a test with its two answers, each way once -/
theorem wp_ifR (R : Prop) (h : Et B tt env R (¬ R)) (h1 : R → Wp B tb env D) (h2 : ¬ R → Wp B tw env D) : Wp B (tIfS tt tb tw) env D := wp_if (et_imp h h1 h2)
theorem wp_aug {i : Nat} {f : Int → Int → Int} {a : Int} (hi : env[i]? = some (.dat (.int a))) (h : Ev B false te env fun d => ∃ b, d = .int b ∧ Nx B (env.set i (.dat (.int (f a b)))) D.nx) : Wp B (tAug i te (ipI f)) env D := fun F H σ E => by
  obtain ⟨v, h1, h2⟩ := E.dat hi
  rw [Rp.int_iff.mp h2] at h1
  refine ⟨_, h1, h F H σ E _ fun d v F' H' hp E' g r => ?_⟩
  obtain ⟨b, rfl, hn⟩ := hp
  exact ⟨a, b, rfl, Rp.int_iff.mp r, hn F' H' _ (E'.setDat (Rp.int_iff.mpr rfl))⟩
/-- a, b = x, y -/
theorem wp_par {i j : Nat} {ta : TA} (h : Ea B true ta env fun ds => ∃ x y, ds = [x, y] ∧ Nx B ((env.set i (.dat x)).set j (.dat y)) D.nx) : Wp B (tPar i j ta) env D := fun F H σ E => h F H σ E _ fun ds vs F' H' hp E' g r => by
  obtain ⟨x, y, rfl, hn⟩ := hp
  obtain ⟨v, r1, rfl, h3, h4⟩ := RpAll.cons_iff.mp r
  obtain ⟨w, r2, rfl, h5, h6⟩ := RpAll.cons_iff.mp h4
  rw [RpAll.nil_iff.mp h6]
  exact ⟨v, w, rfl, hn F' H' _ ((E'.setDat h3).setDat h5)⟩
/-- a, b = e, e a tuple -/
theorem wp_tup2 {i j : Nat} (h : Ev B true te env fun d => ∃ x y, d = .tup [x, y] ∧ Nx B ((env.set i (.dat x)).set j (.dat y)) D.nx) : Wp B (tAsg te (gTup K 2 (gCons (gName i) (gCons (gName j) gNil)))) env D := fun F H σ E => h F H σ E _ fun d v F' H' hp E' g r => by
  obtain ⟨x, y, rfl, hn⟩ := hp
  obtain ⟨a, vs, rfl, ha, hr⟩ := Rp.tup_iff.mp r
  obtain ⟨v, r1, rfl, h3, h4⟩ := RpAll.cons_iff.mp hr
  obtain ⟨w, r2, rfl, h5, h6⟩ := RpAll.cons_iff.mp h4
  rw [RpAll.nil_iff.mp h6] at ha
  exact ⟨a, _, rfl, SqT.of (E'.fh _ _ ha), rfl, v, [w], rfl, w, [], rfl, rfl, hn F' H' _ ((E'.setDat h3).setDat h5)⟩
/-- found.append(e) -/
theorem wp_append {i : Nat} {xs : List Dt} (hi : env[i]? = some (.own xs)) (h : Ev B true te env fun d => xs.length < 1000000 ∧ Nx B (env.set i (.own (xs ++ [d]))) D.nx) : Wp B (tDrop (tBM K "list" rAppend (tVar i) (tCons te tNil))) env D := fun F H σ E => by
  obtain ⟨p, vs, h1, h2, h3, h4, h5⟩ := E.own hi
  refine ⟨.ref p, h1, .inl ⟨rfl, _, SqL.of h4⟩, h F H σ E _ fun d v F' H' hp E' g r => ?_⟩
  refine ⟨p, vs, v, rfl, rfl, g.h _ _ h4, sz2 (by rw [← h5.length]; exact hp.1), hp.2 F' _ σ ?_⟩
  exact E'.putOwn hi h1 ((RpAll.mono g.f xs h5).append (RpAll.cons r RpAll.nil))
/-- found[k] = e -/
theorem wp_setL {i : Nat} {xs : List Dt} (hi : env[i]? = some (.own xs)) (h : Ev B true te env fun d => Ev B false ta env fun y => ∃ (k : Int) (n : Nat), y = .int k ∧ ixN xs.length k = some n ∧ Nx B (env.set i (.own (xs.set n d))) D.nx) : Wp B (tAsg te (gSub (tVar i) ta rSetL)) env D := fun F H σ E =>
  h F H σ E _ fun d v F1 H1 h1 E1 g1 r1 => by
    obtain ⟨p, vs, e1, e2, e3, e4, e5⟩ := E1.own hi
    refine ⟨.ref p, e1, h1 F1 H1 σ E1 _ fun y w F2 H2 h2 E2 g2 r2 => ?_⟩
    obtain ⟨k, n, rfl, hn, hx⟩ := h2
    refine ⟨p, vs, k, n, rfl, Rp.int_iff.mp r2, g2.h _ _ e4, by rw [← e5.length]; exact hn, hx F2 _ σ ?_⟩
    exact E2.putOwn hi e1 (RpAll.set (Rp.mono g2.f d r1) n (RpAll.mono g2.f xs e5))
/-- found.reverse() -/
theorem wp_reverse {i : Nat} {xs : List Dt} (hi : env[i]? = some (.own xs)) (h : Nx B (env.set i (.own xs.reverse)) D.nx) : Wp B (tDrop (tBM0 K "list" rReverse (tVar i))) env D := fun F H σ E => by
  obtain ⟨p, vs, h1, h2, h3, h4, h5⟩ := E.own hi
  exact ⟨.ref p, h1, .inl ⟨rfl, _, SqL.of h4⟩, p, vs, rfl, rfl, h4, h F _ σ (E.putOwn hi h1 h5.reverse)⟩
/-- x = found.pop(), found.pop() -/
theorem wp_popA {i j : Nat} {xs : List Dt} {d : Dt} (hi : env[i]? = some (.own (xs ++ [d]))) (h : Nx B ((env.set i (.own xs)).set j (.dat d)) D.nx) : Wp B (tAsg (tBM0 K "list" rPop (tVar i)) (gName j)) env D := fun F H σ E => by
  obtain ⟨p, vs, h1, h2, h3, h4, h5⟩ := E.own hi
  have hl := h5.length
  rw [List.length_append, List.length_singleton] at hl
  obtain ⟨v, hv, rv⟩ := h5.get (i := xs.length) (x := d) (by simp)
  have ht := h5.take xs.length
  rw [List.take_left'] at ht
  · have e : vs.dropLast = vs.take xs.length := by rw [List.dropLast_eq_take]; congr 1; omega
    refine ⟨.ref p, h1, .inl ⟨rfl, _, SqL.of h4⟩, p, vs, v, rfl, rfl, h4, by rw [show vs.length - 1 = xs.length by omega]; exact hv, ?_⟩
    rw [e]
    exact h F _ _ ((E.putOwn hi h1 ht).setDat rv)
  · rfl
theorem wp_pop {i : Nat} {xs : List Dt} {d : Dt} (hi : env[i]? = some (.own (xs ++ [d]))) (h : Nx B (env.set i (.own xs)) D.nx) : Wp B (tDrop (tBM0 K "list" rPop (tVar i))) env D := fun F H σ E => by
  obtain ⟨p, vs, h1, h2, h3, h4, h5⟩ := E.own hi
  have hl := h5.length
  rw [List.length_append, List.length_singleton] at hl
  obtain ⟨v, hv, rv⟩ := h5.get (i := xs.length) (x := d) (by simp)
  have ht := h5.take xs.length
  rw [List.take_left'] at ht
  · have e : vs.dropLast = vs.take xs.length := by rw [List.dropLast_eq_take]; congr 1; omega
    refine ⟨.ref p, h1, .inl ⟨rfl, _, SqL.of h4⟩, p, vs, v, rfl, rfl, h4, by rw [show vs.length - 1 = xs.length by omega]; exact hv, ?_⟩
    rw [e]
    exact h F _ _ (E.putOwn hi h1 ht)
  · rfl
/-- found.insert(k, e) -/
theorem wp_break (h : Nx B env D.bk) : Wp B tBreak env D := h
theorem wp_continue (h : Nx B env D.ct) : Wp B tCont env D := h
end

/-! ### loops -/
section
variable {B : Bs} {env : List Sl} {te tl : TE} {D : Ends} {tb : TS} {tt : TT} {K : PySem.W.Frag}
/-- a loop by its turns: INV behind i turns -/
def Lp (B : Bs) (D : Ends) (tb : TS) (j : Nat) (n : Nat) (it : Nat → Dt → Prop) (env : List Sl) (INV : Nat → List Sl → Prop) : Prop :=
  INV 0 env ∧ (∀ i d env', i < n → it i d → INV i env' → Wp B tb (env'.set j (.dat d)) (Lo B D (INV (i + 1)))) ∧ ∀ env', INV n env' → Nx B env' D.nx
theorem wp_forR1 {j : Nat} {ta : TA} (h : Ea B false ta env fun ds => ∃ n : Int, ds = [.int n] ∧ -1000000000 ≤ n ∧ n ≤ 1000000000 ∧ ∃ INV, Lp B D tb j n.toNat (fun i d => d = .int i) env INV) : Wp B (tFor (iRng1 ta) (gName j) tb) env D := fun F H σ E =>
  h F H σ E _ fun ds vs F1 H1 h1 E1 g1 r1 => by
    obtain ⟨n, rfl, n1, n2, INV, i0, it, ie⟩ := h1
    obtain ⟨v, r, rfl, h3, h4⟩ := RpAll.cons_iff.mp r1
    rw [RpAll.nil_iff.mp h4, Rp.int_iff.mp h3]
    refine ⟨n, rfl, by omega, by omega, for_range (lo := 0) (n := n.toNat) (fun i => CZ B (INV i)) ⟨F1, env, E1, i0⟩ (fun i σ' H' hi p => ?_) (fun σ' H' p => ?_)⟩
    · obtain ⟨F2, env2, E2, hv⟩ := p
      exact it i (.int i) env2 hi rfl hv F2 H' _ (E2.setDat (Rp.int_iff.mpr (by rw [Int.zero_add])))
    · obtain ⟨F2, env2, E2, hv⟩ := p
      exact ie env2 hv F2 H' σ' E2
theorem wp_forR2 {j : Nat} {ta : TA} (h : Ea B false ta env fun ds => ∃ lo n : Int, ds = [.int lo, .int n] ∧ (-1000000000 ≤ lo ∧ lo ≤ 1000000000 ∧ -1000000000 ≤ n ∧ n ≤ 1000000000) ∧ ∃ INV, Lp B D tb j (n - lo).toNat (fun i d => d = .int (lo + i)) env INV) : Wp B (tFor (iRng2 ta) (gName j) tb) env D := fun F H σ E =>
  h F H σ E _ fun ds vs F1 H1 h1 E1 g1 r1 => by
    obtain ⟨lo, n, rfl, hb, INV, i0, it, ie⟩ := h1
    obtain ⟨v, r, rfl, h3, h4⟩ := RpAll.cons_iff.mp r1
    obtain ⟨v2, r2, rfl, h5, h6⟩ := RpAll.cons_iff.mp h4
    rw [RpAll.nil_iff.mp h6, Rp.int_iff.mp h3, Rp.int_iff.mp h5]
    refine ⟨lo, n, rfl, by omega, for_range (lo := lo) (n := (n - lo).toNat) (fun i => CZ B (INV i)) ⟨F1, env, E1, i0⟩ (fun i σ' H' hi p => ?_) (fun σ' H' p => ?_)⟩
    · obtain ⟨F2, env2, E2, hv⟩ := p
      exact it i (.int (lo + i)) env2 hi rfl hv F2 H' _ (E2.setDat (Rp.int_iff.mpr rfl))
    · obtain ⟨F2, env2, E2, hv⟩ := p
      exact ie env2 hv F2 H' σ' E2
/-- for x in range(a, b, -1) and any step -/
theorem wp_forR3 {j : Nat} {ta : TA} (h : Ea B false ta env fun ds => ∃ (lo hi c : Int) (n : Nat), ds = [.int lo, .int hi, .int c] ∧ RgC lo hi c n ∧ ∃ INV, Lp B D tb j n (fun i d => d = .int (lo + i * c)) env INV) : Wp B (tFor (iRng3 ta) (gName j) tb) env D := fun F H σ E =>
  h F H σ E _ fun ds vs F1 H1 h1 E1 g1 r1 => by
    obtain ⟨lo, hi, c, n, rfl, hb, INV, i0, it, ie⟩ := h1
    obtain ⟨v, r, rfl, h3, h4⟩ := RpAll.cons_iff.mp r1
    obtain ⟨v2, r2, rfl, h5, h6⟩ := RpAll.cons_iff.mp h4
    obtain ⟨v3, r3, rfl, h7, h8⟩ := RpAll.cons_iff.mp h6
    rw [RpAll.nil_iff.mp h8, Rp.int_iff.mp h3, Rp.int_iff.mp h5, Rp.int_iff.mp h7]
    refine ⟨lo, hi, c, n, rfl, hb, for_rangeC (lo := lo) (c := c) (n := n) (fun i => CZ B (INV i)) ⟨F1, env, E1, i0⟩ (fun i σ' H' hi p => ?_) (fun σ' H' p => ?_)⟩
    · obtain ⟨F2, env2, E2, hv⟩ := p
      exact it i (.int (lo + i * c)) env2 hi rfl hv F2 H' _ (E2.setDat (Rp.int_iff.mpr rfl))
    · obtain ⟨F2, env2, E2, hv⟩ := p
      exact ie env2 hv F2 H' σ' E2
/-- for c in text -/
theorem wp_forS {j : Nat} (h : Ev B false tl env fun x => ∃ z : List Nat, x = .str z ∧ ∃ INV, Lp B D tb j z.length (fun i d => ∃ c, z[i]? = some c ∧ d = .str [c]) env INV) : Wp B (tFor (iStr tl) (gName j) tb) env D := fun F H σ E =>
  h F H σ E _ fun d v F1 H1 h1 E1 g1 r1 => by
    obtain ⟨z, rfl, INV, i0, it, ie⟩ := h1
    have hz : (S z).cps.size = z.length := by show z.toArray.size = _; simp
    refine ⟨S z, Rp.str_iff.mp r1, fun i m σ' H' => m = z.length - i ∧ i ≤ z.length ∧ CZ B (INV i) σ' H', ⟨z.length, by simp, Nat.zero_le _, F1, env, E1, i0⟩, ?_⟩
    rintro i m σ' H' ⟨rfl, hi, F2, env2, E2, hv⟩
    by_cases hlt : i < z.length
    · refine .inr ⟨by show i < (S z).cps.size; omega, CZ B (INV (i + 1)), fun σ2 H2 p' => ⟨z.length - (i + 1), by omega, rfl, hlt, p'⟩, fun v H2 y => ?_⟩
      obtain ⟨e, c, hc, ev⟩ := y
      subst e ev
      have hi' : z[i]? = some c := by
        have : (S z).cps[i]? = z[i]? := by show z.toArray[i]? = _; simp
        rw [← this]; exact hc
      exact it i (.str [c]) env2 hlt ⟨c, hi', rfl⟩ hv F2 _ _ (E2.setDat (Rp.str_iff.mpr rfl))
    · have e : i = z.length := by omega
      subst e
      exact .inl ⟨by show (S z).cps.size ≤ z.length; omega, ie env2 hv F2 H' σ' E2⟩
/-- further facts ride along -/
def Bs.push (B : Bs) (G : Hp) : Bs := { B with gh := G :: B.gh }
theorem EnvOk.push {F H G : Hp} {σ : L2.St} (E : EnvOk B F H σ env) (r : Ex G F) : EnvOk (B.push G) F H σ env :=
  ⟨E.len, E.g, E.gf, E.fh, E.hh, fun p hp => by
    rcases List.mem_cons.mp hp with rfl | hp
    · exact r
    · exact E.gho p hp, fun i s o h1 h2 => by
    have q := E.sl i s o h1 h2
    cases s <;> exact q, E.sep⟩
theorem EnvOk.pop {F H G : Hp} {σ : L2.St} (E : EnvOk (B.push G) F H σ env) : EnvOk B F H σ env :=
  ⟨E.len, E.g, E.gf, E.fh, E.hh, fun p hp => E.gho p (List.mem_cons_of_mem _ hp), fun i s o h1 h2 => by
    have q := E.sl i s o h1 h2
    cases s <;> exact q, E.sep⟩
theorem Nx.up {N : L2.St → Hp → Prop} {G : Hp} (h : Nx B env N) : Nx (B.push G) env N := fun F H σ E => h F H σ E.pop
theorem Wp.up {t : TS} {G : Hp} (h : Wp B t env D) : Wp (B.push G) t env D := fun F H σ E => h F H σ E.pop
/-- a loop over items, facts riding along -/
def Lq (B : Bs) (D : Ends) (tb : TS) (j : Nat) (xs : List Dt) (env : List Sl) (INV : Nat → List Sl → Prop) : Prop :=
  INV 0 env ∧ (∀ G i d env', xs[i]? = some d → INV i env' → Wp (Bs.push B G) tb (env'.set j (.dat d)) (Lo (Bs.push B G) D (INV (i + 1)))) ∧ ∀ env', INV xs.length env' → Nx B env' D.nx
/-- for x in list -/
theorem wp_forL {j : Nat} (h : Ev B true tl env fun x => ∃ xs : List Dt, x = .list xs ∧ ∃ INV, Lq B D tb j xs env INV) : Wp B (tFor (iList K tl) (gName j) tb) env D := fun F H σ E => h F H σ E _ fun d v F1 H1 h1 E1 g1 r1 => by
  obtain ⟨xs, rfl, INV, i0, it, ie⟩ := h1
  obtain ⟨a, vs, rfl, ha, hr⟩ := Rp.list_iff.mp r1
  refine ⟨a, rfl, ⟨vs, SqL.of (E1.fh _ _ ha)⟩, for_list (xs := vs) (fun i σ' H' => CZ (Bs.push B F1) (INV i) σ' H') ⟨F1, env, E1.push (Ex.refl F1), i0⟩ (fun i σ' H' _ p => ?_) (fun i x σ' H' hi p => ?_) (fun σ' H' p => ?_)⟩
  · obtain ⟨F2, env2, E2, hv⟩ := p
    exact SqL.of (E2.fh _ _ (E2.gho F1 List.mem_cons_self _ _ ha))
  · obtain ⟨F2, env2, E2, hv⟩ := p
    obtain ⟨d, hd, rd⟩ := hr.get' hi
    exact it F1 i d env2 hd hv F2 H' _ (E2.setDat (Rp.mono (E2.gho F1 List.mem_cons_self) d rd))
  · obtain ⟨F2, env2, E2, hv⟩ := p
    rw [← hr.length] at hv
    exact ie env2 hv F2 H' σ' E2.pop
/-- for x in tuple -/
theorem wp_forT {j : Nat} (h : Ev B true tl env fun x => ∃ xs : List Dt, x = .tup xs ∧ ∃ INV, Lq B D tb j xs env INV) : Wp B (tFor (iTup K tl) (gName j) tb) env D := fun F H σ E => h F H σ E _ fun d v F1 H1 h1 E1 g1 r1 => by
  obtain ⟨xs, rfl, INV, i0, it, ie⟩ := h1
  obtain ⟨a, vs, rfl, ha, hr⟩ := Rp.tup_iff.mp r1
  refine ⟨a, rfl, ⟨vs, SqT.of (E1.fh _ _ ha)⟩, for_tup (xs := vs) (fun i σ' H' => CZ (Bs.push B F1) (INV i) σ' H') ⟨F1, env, E1.push (Ex.refl F1), i0⟩ (fun i σ' H' _ p => ?_) (fun i x σ' H' hi p => ?_) (fun σ' H' p => ?_)⟩
  · obtain ⟨F2, env2, E2, hv⟩ := p
    exact SqT.of (E2.fh _ _ (E2.gho F1 List.mem_cons_self _ _ ha))
  · obtain ⟨F2, env2, E2, hv⟩ := p
    obtain ⟨d, hd, rd⟩ := hr.get' hi
    exact it F1 i d env2 hd hv F2 H' _ (E2.setDat (Rp.mono (E2.gho F1 List.mem_cons_self) d rd))
  · obtain ⟨F2, env2, E2, hv⟩ := p
    rw [← hr.length] at hv
    exact ie env2 hv F2 H' σ' E2.pop
/-- while: INV with a measure -/
theorem wp_while (INV : Nat → List Sl → Prop) (k : Nat) (h0 : INV k env) (h : ∀ k env', INV k env' → Et B tt env' (Wp B tb env' (Lo B D fun e => ∃ k', k' < k ∧ INV k' e)) (Nx B env' D.nx)) :
    Wp B (tWhile tt tb) env D := fun F H σ E => by
  refine ⟨fun k => CZ B (INV k), ⟨k, F, env, E, h0⟩, fun k σ' H' p => ?_⟩
  obtain ⟨F2, env2, E2, hv⟩ := p
  refine h k env2 hv F2 H' σ' E2 _ (fun hw F3 H3 E3 g3 => ?_) (fun hn F3 H3 E3 g3 => ?_)
  · show ∃ N : L2.St → Hp → Prop, _
    refine ⟨CZ B fun e => ∃ k', k' < k ∧ INV k' e, fun σ4 H4 p4 => ?_, hw F3 H3 σ' E3⟩
    obtain ⟨F4, env4, E4, k', hk, hv4⟩ := p4
    exact ⟨k', hk, F4, env4, E4, hv4⟩
  · exact hn F3 H3 σ' E3
end

/-! ### a def keeps its promise -/
theorem envOk_start {H G : Hp} {N : List Str} {vs : List V} {args : List Dt} (hg : Ex G H) (r : RpAll G args vs) (hN : args.length ≤ N.length) : EnvOk ⟨H, G, []⟩ G H (start N vs) (args.map Sl.dat ++ List.replicate (N.length - args.length) Sl.no) := by
  have hl := r.length
  refine ⟨?_, Ex.refl G, fun a o h n => ?_, hg, Ex.refl H, (fun p hp => by cases hp), fun i s o h1 h2 => ?_, fun i j xs ys p h1 h2 h3 h4 => ?_⟩
  · unfold L2.start
    simp [hl]
  · have n' : G a = none := n
    rw [n'] at h; cases h
  · unfold L2.start at h2
    by_cases hi : i < args.length
    · rw [List.getElem?_append_left (by simpa using hi), List.getElem?_map] at h1
      rw [List.getElem?_append_left (by simpa [← hl] using hi), List.getElem?_map] at h2
      rw [List.getElem?_eq_getElem hi] at h1
      obtain ⟨v, hv, rv⟩ := r.get (List.getElem?_eq_getElem hi)
      rw [hv] at h2
      cases h1
      cases h2
      exact ⟨v, rfl, rv⟩
    · rw [List.getElem?_append_right (by simpa using Nat.le_of_not_lt hi)] at h1
      have := List.mem_of_getElem? h1
      rw [List.eq_of_mem_replicate this]
      trivial
  · by_cases hi : i < args.length
    · rw [List.getElem?_append_left (by simpa using hi), List.getElem?_map, List.getElem?_eq_getElem hi] at h1
      cases h1
    · rw [List.getElem?_append_right (by simpa using Nat.le_of_not_lt hi)] at h1
      have := List.eq_of_mem_replicate (List.mem_of_getElem? h1)
      cases this
/-- a body over data keeps its promise; n slots -/
def WpD (t : TS) (n : Nat) (R : Rd1) : Prop := ∀ (B : Bs) (Q : VK) (args : List Dt) (Φ : Dt → Prop), R args Φ → Rt B Q Φ → Wp B t (args.map Sl.dat ++ List.replicate (n - args.length) Sl.no) (Top Q)
def WpO (t : TS) (n : Nat) (R : RdL) : Prop := ∀ (B : Bs) (Q : VK) (args : List Dt) (Φ : List Dt → Prop), R args Φ → RtO B Q Φ → Wp B t (args.map Sl.dat ++ List.replicate (n - args.length) Sl.no) (Top Q)
/-- a def of the text that keeps a promise, ready to be called -/
structure Df (P : Program) (w : World) (K : PySem.W.Frag) (mg : Str → Option Value) (base : Heap) (k : Nat) (x : Str) (ps : List Str) (sp : Sp) : Prop where
  ex : ∃ (f : Addr) (fd : FuncData), FnOk P w K mg base CX0 k f fd ps sp ∧ mg x = some (.ref f) ∧ PySem.W.keepIn K (.ref f) = true ∧ Binds K fd ps []
section
variable {P : Program} {w : World} {K : PySem.W.Frag} {mg : Str → Option Value} {base : Heap}
/-- THE RULE for a def whose promise is spD -/
theorem okD {x qual : Str} {st : Stmt} {f : Addr} {fd : FuncData} {N ps : List Str} {k n : Nat} {R : Rd1} {t : TS} (F : Fun K x qual st f fd) (SC : FnScope N ps (defScope st)) (hps : ps.length ≤ N.length) (hn : n = ps.length)
    (hbody : ∀ (cdv : Value) (A : Around) (outer : List Env) (s : Shared) (H : Hp) (E : XK), Room k (A.deeper (envOfC qual (defScope st) s.heap.objs.size f cdv)) →
      PSs (cxOf CX0 P w K mg base N qual (defScope st) f cdv A outer s H E).nox (defBody st) t) (hw : WpD t N.length R) :
    FnOk P w K mg base CX0 (k + 1) f fd ps (spD n R) := by
  subst hn
  refine F.ok SC (fun vs H Q E h => ?_) (fun cdv A outer s H vs Q E hr h => ?_)
  · obtain ⟨G, args, Φ, hl, h1, h2, h3, h4⟩ := h
    rw [← h2.length]
    exact hl
  · obtain ⟨G, args, Φ, hl, h1, h2, h3, h4⟩ := h
    exact ⟨t, hbody cdv A outer s H E hr, hw ⟨H, G, []⟩ Q args Φ h3 h4 G H _ (envOk_start h1 h2 (by rw [hl]; exact hps))⟩
theorem okO {x qual : Str} {st : Stmt} {f : Addr} {fd : FuncData} {N ps : List Str} {k n : Nat} {R : RdL} {t : TS} (F : Fun K x qual st f fd) (SC : FnScope N ps (defScope st)) (hps : ps.length ≤ N.length) (hn : n = ps.length)
    (hbody : ∀ (cdv : Value) (A : Around) (outer : List Env) (s : Shared) (H : Hp) (E : XK), Room k (A.deeper (envOfC qual (defScope st) s.heap.objs.size f cdv)) →
      PSs (cxOf CX0 P w K mg base N qual (defScope st) f cdv A outer s H E).nox (defBody st) t) (hw : WpO t N.length R) :
    FnOk P w K mg base CX0 (k + 1) f fd ps (spO n R) := by
  subst hn
  refine F.ok SC (fun vs H Q E h => ?_) (fun cdv A outer s H vs Q E hr h => ?_)
  · obtain ⟨G, args, Φ, hl, h1, h2, h3, h4⟩ := h
    rw [← h2.length]
    exact hl
  · obtain ⟨G, args, Φ, hl, h1, h2, h3, h4⟩ := h
    exact ⟨t, hbody cdv A outer s H E hr, hw ⟨H, G, []⟩ Q args Φ h3 h4 G H _ (envOk_start h1 h2 (by rw [hl]; exact hps))⟩
theorem Df.mk' {x : Str} {ps : List Str} {sp : Sp} {k : Nat} {f : Addr} {fd : FuncData} (h : FnOk P w K mg base CX0 k f fd ps sp) (hm : mg x = some (.ref f)) (hk : PySem.W.keepIn K (.ref f) = true) (hb : Binds K fd ps []) : Df P w K mg base k x ps sp := ⟨f, fd, h, hm, hk, hb⟩
/-- a call of it -/
theorem pe_d {X : Cx} {k j : Nat} {x : Str} {ps : List Str} {sp : Sp} {p pos : Pos} {e : Expr} {es : List Expr} {t : TA} (d : Df X.prog X.w X.K X.mg X.base k x ps sp) (hr : Room j X.A) (hkj : k ≤ j) (hg : Gl X x) (ha : PA X (e :: es) t)
    (hdb : (x == ("__debug__" : Str)) = false := by decide) (he : starEach (e :: es) X.env = (false, eval e X.env) :: starEach es X.env := by rfl) (hpl : (backTo pos (starEach es X.env)).any (·.1) = false := by rfl) :
    PE X (.Call (.Name x p) (e :: es) [] pos) (tCall sp [] E0 t) := by
  obtain ⟨f, fd, h, hm, hk, hb⟩ := d.ex
  exact pe_call h (hr.mono hkj) hg hm hk hb .nil pass0 ha hdb he hpl
end

/-! ### the deck -/
section
variable {P : Program} {w : World} {K : PySem.W.Frag} {mg : Str → Option Value} {base : Heap}
theorem deck_ok {H : Hp} {h : Heap} {a : Addr} {ns : List Int} (hn : ∀ k ∈ ns, 0 ≤ k) (hl : ns.length ≤ 100000) (x : ObjOk P w H h a (.lst (ns.map V.int))) {H2 : Hp} : ObjOk P w H2 h a (deckO a) := by
  obtain ⟨_, its, n, r, e⟩ := x
  refine ⟨⟨ns, its, n, hl, hn, r, e⟩, ⟨_, e⟩, fun h1 h2 z k => ?_⟩
  obtain ⟨ns, its, n, z1, z2, z3, z4⟩ := z
  exact ⟨ns, its, n, z1, z2, z3, k _ z4⟩
theorem deck_at {H : Hp} {h : Heap} {a : Addr} (hok : HOk P w H h) (he : H a = some (deckO a)) : DeckAt a h := by
  have x : ObjOk P w H h a (.ext (DeckAt a)) := hok a _ he
  exact x.1
theorem deck_lst {h : Heap} {a : Addr} (d : DeckAt a h) {H : Hp} : ∃ ns : List Int, ns.length ≤ 100000 ∧ (∀ k ∈ ns, 0 ≤ k) ∧ ObjOk P w H h a (.lst (ns.map V.int)) := by
  obtain ⟨ns, its, n, hl, hn, r, e⟩ := d
  exact ⟨ns, hl, hn, by rw [List.length_map]; exact Nat.le_trans hl (by decide), its, n, r, e⟩
/-- the promise of _law_deck: a deck comes back -/
def spDeck (K : PySem.W.Frag) : Sp := fun vs H Q _ => ∃ (a : Addr) (ns : List Int) (c e : Int), vs = [.ref a, .int c, .int e] ∧ SqL K H a (ns.map V.int) ∧ ns.length ≤ 1000 ∧ 0 ≤ c ∧ c ≤ 100 ∧ 0 ≤ e ∧ e ≤ 100 ∧
  ∀ d H', H d = none → Ex H H' → H' d = some (deckO d) → Q (.ref d) H'
/-- the same, the deck a list as yet -/
def spDeck0 (K : PySem.W.Frag) : Sp := fun vs H Q _ => ∃ (a : Addr) (ns : List Int) (c e : Int), vs = [.ref a, .int c, .int e] ∧ SqL K H a (ns.map V.int) ∧ ns.length ≤ 1000 ∧ 0 ≤ c ∧ c ≤ 100 ∧ 0 ≤ e ∧ e ≤ 100 ∧
  ∀ d H' (ms : List Int), H d = none → Ex H H' → H' d = some (.lst (ms.map V.int)) → ms.length ≤ 100000 → (∀ k ∈ ms, 0 ≤ k) → Q (.ref d) H'
theorem lst_at {H : Hp} {h : Heap} {a : Addr} {xs : List V} (hok : HOk P w H h) (he : H a = some (.lst xs)) : ∃ u, h.get? a = some u := by
  obtain ⟨_, its, n, r, e⟩ := hok a _ he
  exact ⟨_, e⟩
theorem deckO_at {H : Hp} {h : Heap} {a : Addr} (hok : HOk P w H h) (he : H a = some (deckO a)) : ∃ u, h.get? a = some u := by
  have x : ObjOk P w H h a (.ext (DeckAt a)) := hok a _ he
  exact x.2.1
theorem deck_of {x : Str} {ps : List Str} {k : Nat} {f : Addr} {fd : FuncData} (F : FnOk P w K mg base CX0 k f fd ps (spDeck0 K)) : FnOk P w K mg base CX0 k f fd ps (spDeck K) := by
  refine ⟨fun vs H Q E h => ?_, fun A outer s H args us vs Q E hr he hb hv h => ?_⟩
  · obtain ⟨a, ns, c, e, rfl, h1, h2, h3, h4, h5, h6, _⟩ := h
    exact F.len _ H (fun _ _ => True) E ⟨a, ns, c, e, rfl, h1, h2, h3, h4, h5, h6, fun _ _ _ _ _ _ _ _ => trivial⟩
  · obtain ⟨a, ns, c, e, rfl, h1, h2, h3, h4, h5, h6, hq⟩ := h
    refine codeAny_mono (F.run A outer s H args us _ (fun v H' => ∃ d ms, v = .ref d ∧ H d = none ∧ Ex H H' ∧ H' d = some (.lst (List.map V.int ms)) ∧ ms.length ≤ 100000 ∧ (∀ k ∈ ms, 0 ≤ k)) E hr he hb hv
      ⟨a, ns, c, e, rfl, h1, h2, h3, h4, h5, h6, fun d H' ms k1 k2 k3 k4 k5 => ⟨d, ms, rfl, k1, k2, k3, k4, k5⟩⟩) fun r s' hr' => ?_
    cases r with
    | error er => exact hr'
    | ok fl =>
      cases fl with
      | ret u =>
        obtain ⟨v, H', os, bare, un, hok, rv, d, ms, rfl, k1, k2, k3, k4, k5⟩ := hr'
        have mu : Mut (H' d) := by rw [k3]; trivial
        obtain ⟨ob, hob⟩ := lst_at hok k3
        have new : ∀ {H2 : Hp}, ObjOk P w H2 s'.heap d (deckO d) := fun {H2} => deck_ok k5 k4 (hok d _ k3)
        refine ⟨.ref d, upd H' d (deckO d), os, bare, un.trans (Un.write mu (.inl rfl) (fun _ _ _ q => q) ⟨ob, hob⟩), HOk.write hok mu (.inl rfl) (fun _ _ _ q => q) ⟨ob, hob⟩ new, rv, hq d _ k1 (k2.put k1) upd_same⟩
      | next => exact hr'
      | brk => exact hr'
      | cont => exact hr'
/-- _law_take -/
def spTake0 : Sp := fun vs H Q _ => ∃ (d : Addr) (ns : List Int) (n : Int), vs = [.ref d, .int n] ∧ H d = some (.lst (ns.map V.int)) ∧ ns.length ≤ 100000 ∧ (∀ k ∈ ns, 0 ≤ k) ∧ 0 < n ∧
  ∀ (r : Int) (ms : List Int), 0 ≤ r → r < n → ms.length ≤ 100000 → (∀ k ∈ ms, 0 ≤ k) → Q (.int r) (upd H d (.lst (ms.map V.int)))
/-- data: any number below n comes -/
def rTake : Rd1 := fun args Φ => ∃ n : Int, args = [.deck, .int n] ∧ 0 < n ∧ ∀ r : Int, 0 ≤ r → r < n → Φ (.int r)
theorem take_of {ps : List Str} {k : Nat} {f : Addr} {fd : FuncData} (hp : ps.length = 2) (F : FnOk P w K mg base CX0 k f fd ps spTake0) : FnOk P w K mg base CX0 k f fd ps (spD 2 rTake) := by
  refine ⟨fun vs H Q E h => ?_, fun A outer s H args us vs Q E hr he hb hv h => ?_⟩
  · obtain ⟨G, args, Φ, hl, h1, h2, _⟩ := h
    rw [← h2.length, hl, hp]
  · obtain ⟨G, args', Φ, hl, hg, hra, ⟨n, rfl, h0, hΦ⟩, hrt⟩ := h
    obtain ⟨v1, r1, rfl, ha, hra⟩ := RpAll.cons_iff.mp hra
    obtain ⟨v2, r2, rfl, hb2, hra⟩ := RpAll.cons_iff.mp hra
    rw [RpAll.nil_iff.mp hra] at hv
    obtain ⟨d, rfl, hd⟩ := Rp.deck_iff.mp ha
    rw [Rp.int_iff.mp hb2] at hv
    have hdH := hg _ _ hd
    obtain ⟨ns, hn1, hn2, new⟩ := deck_lst (P := P) (w := w) (deck_at he.hok hdH) (H := H)
    have mu : Mut (H d) := by rw [hdH]; trivial
    obtain ⟨ob, hob⟩ := deckO_at he.hok hdH
    have newU : ObjOk P w (upd H d (.lst (ns.map V.int))) s.heap d (.lst (ns.map V.int)) := new
    have ok1 : HOk P w (upd H d (.lst (ns.map V.int))) s.heap := HOk.write he.hok mu (.inl rfl) (fun _ _ _ q => q) ⟨ob, hob⟩ newU
    have nd : ∀ {b : Addr}, H b = none → b ≠ d := fun {b} z e => by rw [e, hdH] at z; cases z
    have he1 : Env0 P w K mg base A outer s (upd H d (.lst (ns.map V.int))) := ⟨he.frames, he.mod, fun b o q => ⟨(he.bs b o q).1, by rw [upd_ne (nd (he.bs b o q).2)]; exact (he.bs b o q).2⟩, he.bsz, he.funs, fun b hb => by rw [upd_ne (nd (he.frf b hb))]; exact he.frf b hb, ok1, he.bare⟩
    refine codeAny_mono (F.run A outer s _ args us _ (fun v H' => ∃ r ms, v = .int r ∧ H' = upd H d (.lst (List.map V.int ms)) ∧ 0 ≤ r ∧ r < n ∧ ms.length ≤ 100000 ∧ (∀ k ∈ ms, 0 ≤ k)) E hr he1 hb hv
      ⟨d, ns, n, rfl, upd_same, hn1, hn2, h0, fun r ms a1 a2 a3 a4 => ⟨r, ms, rfl, upd_upd, a1, a2, a3, a4⟩⟩) fun r s' hr' => ?_
    cases r with
    | error er => exact hr'
    | ok fl =>
      cases fl with
      | ret u =>
        obtain ⟨v, H', os, bare, un, hok, rv, r, ms, rfl, rfl, k1, k2, k3, k4⟩ := hr'
        have e2 : (upd H d (.lst (ms.map V.int))) d = some (.lst (ms.map V.int)) := upd_same
        have mu2 : Mut ((upd H d (.lst (ms.map V.int))) d) := by rw [e2]; trivial
        obtain ⟨ob2, hob2⟩ := lst_at hok e2
        have new2 : ∀ {H2 : Hp}, ObjOk P w H2 s'.heap d (deckO d) := fun {H2} => deck_ok k4 k3 (hok d _ e2)
        have eH : upd (upd H d (.lst (ms.map V.int))) d (deckO d) = H := by
          rw [upd_upd]
          funext b
          by_cases e : b = d
          · rw [e, upd_same, hdH]
          · rw [upd_ne e]
        have ok3 := HOk.write (o' := deckO d) hok mu2 (.inl rfl) (fun _ _ _ q => q) ⟨ob2, hob2⟩ new2
        rw [eH] at ok3
        have un1 : Un (frs outer) [] H (upd H d (.lst (ns.map V.int))) s.heap s.heap := Un.write mu (.inl rfl) (fun _ _ _ q => q) ⟨ob, hob⟩
        have un3 : Un (frs outer) [] (upd H d (.lst (ms.map V.int))) (upd (upd H d (.lst (ms.map V.int))) d (deckO d)) s'.heap s'.heap := Un.write mu2 (.inl rfl) (fun _ _ _ q => q) ⟨ob2, hob2⟩
        rw [eH] at un3
        refine ⟨.int r, H, os, bare, (un1.trans un).trans un3, ok3, rv, hrt (.int r) _ G H (hΦ r k1 k2) (Ex.refl G) (fun a o q1 q2 => ?_) hg (Ex.refl H) (Rp.int_iff.mpr rfl)⟩
        have q2' : G a = none := q2
        rw [q2'] at q1
        cases q1
      | next => exact hr'
      | brk => exact hr'
      | cont => exact hr'
/-- a call of _law_deck in the law, the script raw -/
theorem ev_deck {B : Bs} {env : List Sl} {Pr : Dt → Prop} {X : XK} {i : Nat} {a : Addr} {ns : List Int} {c e : Int} (hi : env[i]? = some (.dat (.raw a))) (hS : SqL K B.H0 a (ns.map V.int)) (hl : ns.length ≤ 1000) (hc : 0 ≤ c ∧ c ≤ 100) (he : 0 ≤ e ∧ e ≤ 100) (h : Pr .deck) :
    Ev B true (tCall (spDeck K) [] X (tCons (tVar i) (tCons (tC (.int c)) (tCons (tC (.int e)) tNil)))) env Pr := fun F H σ E Q q => by
  obtain ⟨v, h1, h2⟩ := E.dat hi
  rw [Rp.raw_iff.mp h2] at h1
  refine ⟨.ref a, h1, ?_⟩
  have hS' : SqL K H a (ns.map V.int) := by
    rcases hS with (z | ⟨o, z⟩) | z
    · exact .inl (.inl (E.hh _ _ z))
    · exact .inl (.inr ⟨o, E.hh _ _ z⟩)
    · exact .inr z
  refine ⟨a, ns, c, e, rfl, hS', hl, hc.1, hc.2, he.1, he.2, fun d H' n1 n2 n3 => ?_⟩
  have fd : F d = none := E.fh.back n1
  have e3 : Ex (upd F d (deckO d)) H' := fun b o z => by
    by_cases hb : b = d
    · rw [hb, upd_same] at z
      rw [hb, n3, z]
    · rw [upd_ne hb] at z
      exact n2 _ _ (E.fh _ _ z)
  have g : Gr F H (upd F d (deckO d)) H' := ⟨Ex.new fd, n2, fun b o z1 z2 => by
    by_cases hb : b = d
    · rw [hb]; exact n1
    · rw [upd_ne hb, z2] at z1; cases z1⟩
  exact q .deck _ _ H' h (E.gr g e3) g (Rp.deck_iff.mpr ⟨d, rfl, upd_same⟩)
/-- the law's promise -/
def spLaw (K : PySem.W.Frag) : Sp := fun vs H Q _ => ∃ (a : Addr) (ns : List Int), vs = [.ref a] ∧ SqL K H a (ns.map V.int) ∧ ns.length ≤ 63 ∧ ∀ H', Q (.bl true) H'
def WpLaw (K : PySem.W.Frag) (t : TS) (n : Nat) : Prop := ∀ (B : Bs) (Q : VK) (a : Addr) (ns : List Int), SqL K B.H0 a (ns.map V.int) → ns.length ≤ 63 → (∀ H', Q (.bl true) H') → Wp B t (.dat (.raw a) :: List.replicate (n - 1) Sl.no) (Top Q)
theorem okLaw {x qual : Str} {st : Stmt} {f : Addr} {fd : FuncData} {N : List Str} {p : Str} {k : Nat} {t : TS} (F : Fun K x qual st f fd) (SC : FnScope N [p] (defScope st)) (hps : 1 ≤ N.length)
    (hbody : ∀ (cdv : Value) (A : Around) (outer : List Env) (s : Shared) (H : Hp) (E : XK), Room k (A.deeper (envOfC qual (defScope st) s.heap.objs.size f cdv)) →
      PSs (cxOf CX0 P w K mg base N qual (defScope st) f cdv A outer s H E).nox (defBody st) t) (hw : WpLaw K t N.length) :
    FnOk P w K mg base CX0 (k + 1) f fd [p] (spLaw K) := by
  refine F.ok SC (fun vs H Q E h => ?_) (fun cdv A outer s H vs Q E hr h => ?_)
  · obtain ⟨a, ns, rfl, _⟩ := h
    rfl
  · obtain ⟨a, ns, rfl, h1, h2, h3⟩ := h
    refine ⟨t, hbody cdv A outer s H E hr, ?_⟩
    exact hw ⟨H, fun _ => none, []⟩ Q a ns h1 h2 h3 (fun _ => none) H _ (envOk_start (G := fun _ => none) (args := [.raw a]) (fun _ _ z => by cases z) (RpAll.cons (Rp.raw_iff.mpr rfl) RpAll.nil) hps)
end
end DL

set_option Elab.async false
set_option linter.all false
set_option maxRecDepth 100000
set_option maxHeartbeats 4000000
set_option autoImplicit false
namespace DL
open PySem PySem.Spec PyProof.Rows L2

/-! ### further kit rules -/
section
variable {X : Cx}
/-- x is True where x is None or a bool -/
def rIsV : R2 := fun x y H Q => (x = .non ∨ ∃ b, x = .bl b) ∧ (∃ c, y = .bl c) ∧ Q (.bl (decide (x = y))) H
theorem op_isV : OpR X (compareOp .Is) rIsV := by
  intro pins s σ H x y v u Q I rx ry h
  obtain ⟨hx, ⟨c, rfl⟩, q⟩ := h
  cases (show u = Value.bool c from ry)
  rcases hx with rfl | ⟨b, rfl⟩
  · cases (show v = Value.none from rx)
    exact wpAny_is_other rfl (fun z => nomatch z) ⟨.bl false, H, I, rfl, by simpa using q⟩
  · exact op_isBl pins s σ H (.bl b) (.bl c) v (Value.bool c) Q I rx rfl ⟨b, c, rfl, rfl, by simpa using q⟩
/-- what is walked is a list or a tuple -/
def iOr (a b : TI) : TI := fun σ H R => a σ H R ∨ b σ H R
theorem pi_or {tg iter : Expr} {a b : TI} (ha : PI X tg iter a) (hb : PI X tg iter b) : PI X tg iter (iOr a b) :=
  ⟨fun pins s σ H R I h => h.elim (ha.run pins s σ H R I) (hb.run pins s σ H R I)⟩
/-- truth by the value -/
def tTru (K : PySem.W.Frag) (ta : TE) : TT := fun σ H Q => ta σ H fun x H' => ∃ k, TruV K x H' k ∧ Q k H'
/-- xs[k] op= e, 0 ≤ k -/
def rGetL (K : PySem.W.Frag) : V → V → Hp → VK → Prop := fun o i H Q => ∃ p xs k v, o = .ref p ∧ i = .int k ∧ SqL K H p xs ∧ 0 ≤ k ∧ k < 2 ^ 62 ∧ xs[k.toNat]? = some v ∧ Q v H
theorem pget_list : PGet X (rGetL X.K) := by
  intro pins s σ H o i ov iv Q I ro ri h
  obtain ⟨p, xs, k, v, rfl, rfl, hl, h0, h1, hk, q⟩ := h
  cases ro
  obtain ⟨t, rfl⟩ := ri
  obtain ⟨its, r, pl, hz⟩ := I.list hl
  obtain ⟨u, hu, ru⟩ := r.get hk
  exact wpAny_getItem_list pl.isList h0 (by omega) (by simpa using hu) ⟨v, H, I, ru, q⟩
/-- text[::-1] -/
def tRevS (te : TE) : TE := fun σ H Q => te σ H fun x H1 => ∃ z : Str, x = .str z ∧ z.length ≤ sizeLine ∧ Q (.str ⟨z.cps.toList.reverse.toArray⟩) H1
theorem revS_pick (z : Str) : (Builtin.Str.strSliceIndices none none (-1) z.length).filterMap (z.cps[·]?) = z.cps.toList.reverse := by
  have e : Builtin.Str.strSliceIndices none none (-1) z.length = sliceRange ((z.length : Int) - 1) (-1) (-1) := by
    unfold Builtin.Str.strSliceIndices
    have h1 : ¬ ((-1 : Int) > 0) := by decide
    simp only [h1, if_false]
  rw [e, PySem.W.krv_sliceRange, PySem.W.krv_range, List.filterMap_reverse]
  show ((List.range z.cps.size).filterMap (z.cps[·]?)).reverse = _
  rw [PySem.W.krv_all]
theorem pe_revS {e : Expr} {te : TE} {k : Nat} {p1 p2 p3 pos : Pos} (he : PE X e te) : PE X (.Subscript e (.Slice none none (some (.UnaryOp .USub (.Constant (.int 1) k p1) p2)) p3) pos) (tRevS te) := by
  refine ⟨fun pins s σ H Q I h => ?_⟩
  refine Subscript_ (thn (he.run pins s σ H _ I h) fun v s1 ⟨x, H1, I1, r1, q1⟩ => ?_)
  obtain ⟨z, ex, hz, q⟩ := q1
  subst ex
  obtain ⟨t, rfl⟩ := r1
  have hst : PO X (some (.UnaryOp .USub (.Constant (.int 1) k p1) p2)) (tPart (tUn (rU fun i => .int (-i)) (tC (.int 1)))) := po_some (pe_un un_neg pe_int)
  refine wpAny_Slice (thn (po_none.run pins s1 σ H1 (fun o H2 => o = none ∧ H2 = H1) I1 ⟨rfl, rfl⟩) fun vl s2 ⟨l, H2, I2, pl, el, e2⟩ => ?_)
  subst el e2
  refine thn (po_none.run pins s2 σ H2 (fun o H3 => o = none ∧ H3 = H2) I2 ⟨rfl, rfl⟩) fun vu s3 ⟨u, H3, I3, pu, eu, e3⟩ => ?_
  subst eu e3
  refine thn (hst.run pins s3 σ H3 (fun o H4 => o = some (-1) ∧ H4 = H3) I3 ⟨1, rfl, -1, rfl, rfl, rfl⟩) fun vs s4 ⟨o, H4, I4, ps, eo, e4⟩ => ?_
  subst eo e4
  have I5 : Inv X pins σ H4 { s4 with heap := s4.heap.push { cls := .type "slice", data := .fields #[vl, vu, vs] } } := I4.kept (t' := s4.toks) fun b ob q => Heap.get?_push_of_some _ q
  obtain ⟨l, e1, e2⟩ := IsPart.raw pl
  obtain ⟨u, e3, e4⟩ := IsPart.raw pu
  obtain ⟨st, e5, e6⟩ := IsPart.raw ps
  have hl : l = none := by cases l with
    | none => rfl
    | some a => cases e2
  have hu : u = none := by cases u with
    | none => rfl
    | some a => cases e4
  obtain ⟨tk, hst'⟩ : ∃ tk, st = some (-1, tk) := by
    cases st with
    | none => cases e6
    | some a =>
      obtain ⟨i, tk⟩ := a
      have : i = (-1 : Int) := Option.some.inj e6
      subst this
      exact ⟨tk, rfl⟩
  subst hl hu hst'
  obtain ⟨os, hos, hcs, hds⟩ : Heap.IsSliceOf (s4.heap.push { cls := .type "slice", data := .fields #[vl, vu, vs] }) s4.heap.objs.size vl vu vs := Heap.IsSliceOf.new _ vl vu vs
  rw [e1, e3, e5] at hds
  refine tail_any (ops := [.str z t, .ref s4.heap.objs.size]) (typeIs_str _ _ _) F.slot_str_getitem.lookup ?_ (by with_unfolding_all rfl)
  refine wpAny_getItem_str_slice (l := none) (u := none) (st := some (-1, tk)) ⟨os, hos, hcs, hds⟩ rfl ?_
  unfold sliceMade
  have hne : ¬ ((((some ((-1 : Int), tk)).map (·.1)).getD 1 == 1 && (slicePicked z none none (some (-1, tk))).length == z.length) = true) := by
    intro h
    rw [Bool.and_eq_true] at h
    exact absurd (show ((-1 : Int) == 1) = true from h.1) (by decide)
  rw [if_neg hne]
  have ep : (slicePicked z none none (some ((-1 : Int), tk))).filterMap (z.cps[·]?) = z.cps.toList.reverse := revS_pick z
  rw [ep]
  have hlen : Str.length ⟨z.cps.toList.reverse.toArray⟩ ≤ sizeLine := by
    show z.cps.toList.reverse.toArray.size ≤ sizeLine
    rw [List.size_toArray, List.length_reverse, Array.length_toList]
    exact hz
  exact ⟨hlen, .str _, H4, I5.tok _, ⟨_, rfl⟩, q⟩
end

/-! ### data rules for these -/
section
variable {B : Bs} {m m1 m2 : Bool} {env : List Sl} {P : Dt → Prop} {PL : List Dt → Prop} {ta tb te tc : TE} {K : PySem.W.Frag} {PT PF : Prop}
/-- the type's name -/
def tyD : Dt → String
  | .non => "NoneType"
  | .bl _ => "bool"
  | .int _ => "int"
  | .str _ => "str"
  | .list _ => "list"
  | .tup _ => "tuple"
  | .deck => "list"
  | .raw _ => ""
def plainD : Dt → Prop
  | .deck => False
  | .raw _ => False
  | _ => True
theorem tyX_of {d : Dt} {v : V} {H : Hp} (hp : plainD d) (r : Rp H d v) : TyX K H v (.type (tyD d)) := by
  cases d with
  | non => rw [Rp.non_iff.mp r]; exact .base .non
  | bl b => rw [Rp.bl_iff.mp r]; exact .base (.bl b)
  | int i => rw [Rp.int_iff.mp r]; exact .base (.int i)
  | str x => rw [Rp.str_iff.mp r]; exact .base (.str _)
  | list xs => obtain ⟨a, vs, rfl, h, _⟩ := Rp.list_iff.mp r; exact .base (.lst h)
  | tup xs => obtain ⟨a, vs, rfl, h, _⟩ := Rp.tup_iff.mp r; exact .base (.tup h)
  | deck => exact hp.elim
  | raw a => exact hp.elim
def IsiP (T : String) (P : Dt → Prop) (x : Dt) : Prop := plainD x ∧ ∃ b, kitB (tyD x) T = some b ∧ P (.bl b)
def IsiTP (T U : String) (P : Dt → Prop) (x : Dt) : Prop := plainD x ∧ ∃ b c, kitB (tyD x) T = some b ∧ kitB (tyD x) U = some c ∧ P (.bl (b || c))
theorem isi_i {T : String} {x : Dt} {b : Bool} (hp : plainD x) (h : kitB (tyD x) T = some b) (h2 : P (.bl b)) : IsiP T P x := ⟨hp, b, h, h2⟩
theorem isiT_i {T U : String} {x : Dt} {b c : Bool} (hp : plainD x) (h : kitB (tyD x) T = some b) (h' : kitB (tyD x) U = some c) (h2 : P (.bl (b || c))) : IsiTP T U P x := ⟨hp, b, c, h, h', h2⟩
theorem ev_isi {T : String} (h : Ev B false ta env (IsiP T P)) : Ev B m (tCB (rIsi K) (tCons ta (tCons (tC (.ty T)) tNil))) env P := fun F H σ E Q q => h F H σ E _ fun d v F1 H1 h1 E1 g1 r1 => by
  obtain ⟨hp, b, hb, hP⟩ := h1
  exact ⟨v, .ty T, _, _, b, rfl, .ty T, tyX_of hp r1, kit_ty hb, q _ _ F1 H1 hP E1 g1 (Rp.bl_iff.mpr rfl)⟩
theorem kitAny_or {t : String} {a b : String} {x y : Bool} (h1 : kitB t a = some x) (h2 : kitB t b = some y) : PySem.W.kitAny K (.type t) [.type a, .type b] = some (x || y) := by
  refine kitAny_cons (kit_ty h1) (fun hx => ?_) (fun hx => by rw [hx]; rfl)
  rw [hx, Bool.false_or]
  exact kitAny_cons (kit_ty h2) (fun hy => by rw [hy]; exact kitAny_nil) (fun hy => hy)
theorem ev_isiT {T U : String} (h : Ev B false ta env (IsiTP T U P)) : Ev B m (tCB (rIsiT K) (tCons ta (tCons (tTup (tCons (tC (.ty T)) (tCons (tC (.ty U)) tNil))) tNil))) env P := fun F H σ E Q q => h F H σ E _ fun d v F1 H1 h1 E1 g1 r1 => by
  obtain ⟨hp, b, c, hb, hc, hP⟩ := h1
  refine ⟨by show 2 ≤ sizeLine; decide, fun p hp2 => ?_⟩
  refine ⟨v, p, _, _, _, b || c, rfl, upd_same, .cons (.ty T) (.cons (.ty U) .nil), tyX_of hp (Rp.mono (Ex.new hp2) d r1), kitAny_or hb hc, ?_⟩
  exact q _ _ F1 _ hP (E1.allocH _ hp2) (g1.trans (Gr.allocH hp2)) (Rp.bl_iff.mpr rfl)
theorem ev_isV (h : Ev B false ta env fun x => ((x = .non ∧ P (.bl false)) ∨ ∃ b, x = .bl b ∧ P (.bl b))) : Ev B m (tOp rIsV ta (tC (.bl true))) env P :=
  ev_op2 (m2 := false) (P2 := fun x y => y = .bl true ∧ ((x = .non ∧ P (.bl false)) ∨ ∃ b, x = .bl b ∧ P (.bl b))) (ev_imp h fun x hp => ev_bl ⟨rfl, hp⟩) fun dx dy x y F H σ Q E rx ry hp k => by
    obtain ⟨rfl, hp⟩ := hp
    rw [Rp.bl_iff.mp ry]
    rcases hp with ⟨rfl, hp⟩ | ⟨b, rfl, hp⟩
    · rw [Rp.non_iff.mp rx]
      exact ⟨.inl rfl, ⟨true, rfl⟩, k _ _ F H hp E (Gr.refl F H) (Rp.bl_iff.mpr rfl)⟩
    · rw [Rp.bl_iff.mp rx]
      refine ⟨.inr ⟨b, rfl⟩, ⟨true, rfl⟩, k _ _ F H hp E (Gr.refl F H) (Rp.bl_iff.mpr ?_)⟩
      cases b <;> rfl
theorem ev_revS (h : Ev B false ta env fun x => ∃ z, x = .str z ∧ z.length ≤ 1000000 ∧ P (.str z.reverse)) : Ev B m (tRevS ta) env P := fun F H σ E Q q => h F H σ E _ fun d v F1 H1 h1 E1 g1 r1 => by
  obtain ⟨z, rfl, hz, hp⟩ := h1
  exact ⟨S z, Rp.str_iff.mp r1, by rw [S_len]; exact sz1 hz, q _ _ F1 H1 hp E1 g1 (Rp.str_iff.mpr rfl)⟩
theorem ev_chain {r r' : R2} {P2 : Dt → Dt → Bool → Prop} {P3 : Dt → Dt → Dt → Prop}
    (h : Ev B false ta env fun x => Ev B false tb env fun y => ∃ b : Bool, P2 x y b ∧ (b = true → Ev B false tc env fun z => P3 x y z) ∧ (b = false → P (.bl false)))
    (h2 : ∀ dx dy x y b F H σ (Q : VK), EnvOk B F H σ env → Rp H dx x → Rp H dy y → P2 dx dy b → Q (.bl b) H → r x y H Q)
    (h3 : ∀ dx dy dz y z F H σ (Q : VK), EnvOk B F H σ env → Rp H dy y → Rp H dz z → P3 dx dy dz → (∀ c, P (.bl c) → Q (.bl c) H) → r' y z H Q) :
    Ev B m (tChain r r' ta tb tc) env P := fun F H σ E Q q => h F H σ E _ fun dx x F1 H1 k1 E1 g1 r1 => k1 F1 H1 σ E1 _ fun dy y F2 H2 k2 E2 g2 r2 => by
  obtain ⟨b, p2, pt, pf⟩ := k2
  refine h2 dx dy x y b F2 H2 σ _ E2 (Rp.mono g2.h dx r1) r2 p2 ⟨b, rfl, ?_⟩
  cases b with
  | false =>
    show Q (.bl false) H2
    exact q _ _ F2 H2 (pf rfl) E2 (g1.trans g2) (Rp.bl_iff.mpr rfl)
  | true =>
    show tc σ H2 _
    refine pt rfl F2 H2 σ E2 _ fun dz z F3 H3 k3 E3 g3 r3 => ?_
    exact h3 dx dy dz y z F3 H3 σ Q E3 (Rp.mono g3.h dy r2) r3 k3 fun c hc => q _ _ F3 H3 hc E3 ((g1.trans g2).trans g3) (Rp.bl_iff.mpr rfl)
theorem ev_chainS (h : Ev B false ta env fun x => Ev B false tb env fun y => ∃ i j, x = .str i ∧ y = .str j ∧ (¬ j < i → Ev B false tc env fun z => ∃ k, z = .str k ∧ P (.bl (!decide (k < j)))) ∧ (j < i → P (.bl false))) : Ev B m (tChain rLeS rLeS ta tb tc) env P :=
  ev_chain (P2 := fun x y b => ∃ i j, x = .str i ∧ y = .str j ∧ b = !decide (j < i)) (P3 := fun x y z => ∃ j k, y = .str j ∧ z = .str k ∧ P (.bl (!decide (k < j))))
    (ev_imp h fun x hx => ev_imp hx fun y hy => by
      obtain ⟨i, j, rfl, rfl, h1, h2⟩ := hy
      refine ⟨_, ⟨i, j, rfl, rfl, rfl⟩, fun hb => ev_imp (h1 (by simpa using hb)) fun z hz => ?_, fun hb => h2 (by simpa using hb)⟩
      obtain ⟨k, rfl, hk⟩ := hz
      exact ⟨j, k, rfl, rfl, hk⟩)
    (fun dx dy x y b F H σ Q E rx ry hp k => by
      obtain ⟨i, j, rfl, rfl, rfl⟩ := hp
      exact ⟨S i, S j, Rp.str_iff.mp rx, Rp.str_iff.mp ry, k⟩)
    (fun dx dy dz y z F H σ Q E ry rz hp k => by
      obtain ⟨i, j, rfl, rfl, hp⟩ := hp
      exact ⟨S i, S j, Rp.str_iff.mp ry, Rp.str_iff.mp rz, k _ hp⟩)
theorem ev_chainI {f g : Int → Int → Bool} (h : Ev B false ta env fun x => Ev B false tb env fun y => ∃ i j, x = .int i ∧ y = .int j ∧ (f i j = true → Ev B false tc env fun z => ∃ k, z = .int k ∧ P (.bl (g j k))) ∧ (f i j = false → P (.bl false))) :
    Ev B m (tChain (rI0 fun i j => .bl (f i j)) (rI0 fun i j => .bl (g i j)) ta tb tc) env P :=
  ev_chain (P2 := fun x y b => ∃ i j, x = .int i ∧ y = .int j ∧ b = f i j) (P3 := fun x y z => ∃ j k, y = .int j ∧ z = .int k ∧ P (.bl (g j k)))
    (ev_imp h fun x hx => ev_imp hx fun y hy => by
      obtain ⟨i, j, rfl, rfl, h1, h2⟩ := hy
      refine ⟨_, ⟨i, j, rfl, rfl, rfl⟩, fun hb => ev_imp (h1 hb) fun z hz => ?_, h2⟩
      obtain ⟨k, rfl, hk⟩ := hz
      exact ⟨j, k, rfl, rfl, hk⟩)
    (fun dx dy x y b F H σ Q E rx ry hp k => by
      obtain ⟨i, j, rfl, rfl, rfl⟩ := hp
      exact ⟨i, j, Rp.int_iff.mp rx, Rp.int_iff.mp ry, k⟩)
    (fun dx dy dz y z F H σ Q E ry rz hp k => by
      obtain ⟨i, j, rfl, rfl, hp⟩ := hp
      exact ⟨i, j, Rp.int_iff.mp ry, Rp.int_iff.mp rz, k _ hp⟩)
/-- over a tuple -/
theorem el_lcT {j : Nat} {tt : TT} {tl : TE} (hj : ∀ xs, env[j]? ≠ some (.own xs))
    (h : Ev B true tl env fun x => ∃ xs, x = .tup xs ∧ ∃ INV : Nat → List Dt → Prop, INV 0 [] ∧ (∀ i d, xs[i]? = some d → CT B tt te env j INV i d) ∧ ∀ acc, INV xs.length acc → PL acc) : El B (tLc (iTup K tl) (gName j) tt te [j]) env PL := fun F H σ E Q q =>
  h F H σ E _ fun d v F1 H1 h1 E1 g1 r1 => by
    obtain ⟨xs, rfl, INV, i0, it, ie⟩ := h1
    obtain ⟨a, vs, rfl, ha, hr⟩ := Rp.tup_iff.mp r1
    refine ⟨a, rfl, ⟨vs, SqT.of (E1.fh _ _ ha)⟩, fun D hD => lc_tup (xs := vs) (fun i H' => CW B env σ F1 H1 D (INV i) H') (cw_start E1 hD i0) (fun i H' _ ⟨F, acc, ws, E', g, _⟩ => SqT.of (g.h _ _ (E1.fh _ _ ha))) (fun i x H' hi p => ?_) (fun H' p => ?_)⟩
    · obtain ⟨d, hd, rd⟩ := hr.get' hi
      exact ⟨wipe_turn σ j x, cw_turn E1 hD p (fun F g => Rp.mono g.f d rd) hj (it i d hd)⟩
    · obtain ⟨F2, acc, ws, E2, g2, d2, hd2, r2, hi⟩ := p
      exact q acc ws D F2 H' (ie acc (by rw [hr.length]; exact hi)) E2 (g1.trans g2) (g1.h.back hD) d2 hd2 r2
theorem el_or1 {a b : TI} {g : TG} {tt : TT} {vs : List Nat} (h : El B (tLc a g tt te vs) env PL) : El B (tLc (iOr a b) g tt te vs) env PL := fun F H σ E Q q => Or.inl (h F H σ E Q q)
theorem el_or2 {a b : TI} {g : TG} {tt : TT} {vs : List Nat} (h : El B (tLc b g tt te vs) env PL) : El B (tLc (iOr a b) g tt te vs) env PL := fun F H σ E Q q => Or.inr (h F H σ E Q q)

/-! == of data -/
mutual
def toPy : Dt → PyData
  | .non => .none
  | .bl b => .bool b
  | .int i => .int i
  | .str x => .str (S x)
  | .list xs => .list (toPys xs)
  | .tup xs => .tuple (toPys xs)
  | .deck => .none
  | .raw _ => .none
def toPys : List Dt → List PyData
  | [] => []
  | x :: xs => toPy x :: toPys xs
end
mutual
/-- it is data throughout -/
def pureD : Dt → Bool
  | .deck => false
  | .raw _ => false
  | .str x => x.all fun c => decide (c < 1114112)
  | .list xs => pureDs xs
  | .tup xs => pureDs xs
  | _ => true
def pureDs : List Dt → Bool
  | [] => true
  | x :: xs => pureD x && pureDs xs
end
mutual
/-- no list within is too long -/
def lenD : Dt → Bool
  | .list xs => decide (xs.length ≤ 100000) && lenDs xs
  | .tup xs => decide (xs.length ≤ 100000) && lenDs xs
  | _ => true
def lenDs : List Dt → Bool
  | [] => true
  | x :: xs => lenD x && lenDs xs
end
mutual
theorem dp_of {H : Hp} : ∀ (d : Dt) {v : V}, pureD d = true → Rp H d v → Dp K H v (toPy d)
  | .non, v, _, r => by rw [Rp.non_iff.mp r]; unfold toPy; exact .non
  | .bl b, v, _, r => by rw [Rp.bl_iff.mp r]; unfold toPy; exact .bl b
  | .int b, v, _, r => by rw [Rp.int_iff.mp r]; unfold toPy; exact .int b
  | .str b, v, _, r => by rw [Rp.str_iff.mp r]; unfold toPy; exact .str _
  | .list xs, v, hp, r => by
    obtain ⟨a, vs, rfl, h, hr⟩ := Rp.list_iff.mp r
    unfold toPy
    unfold pureD at hp
    exact .lst (SqL.of h) (dps_of xs hp hr)
  | .tup xs, v, hp, r => by
    obtain ⟨a, vs, rfl, h, hr⟩ := Rp.tup_iff.mp r
    unfold toPy
    unfold pureD at hp
    exact .tup (SqT.of h) (dps_of xs hp hr)
  | .deck, _, hp, _ => by unfold pureD at hp; cases hp
  | .raw _, _, hp, _ => by unfold pureD at hp; cases hp
theorem dps_of {H : Hp} : ∀ (ds : List Dt) {vs : List V}, pureDs ds = true → RpAll H ds vs → DpAll K H vs (toPys ds)
  | [], vs, _, r => by rw [RpAll.nil_iff.mp r]; unfold toPys; exact .nil
  | x :: xs, vs, hp, r => by
    obtain ⟨v, w, rfl, h1, h2⟩ := RpAll.cons_iff.mp r
    unfold pureDs at hp
    rw [Bool.and_eq_true] at hp
    unfold toPys
    exact .cons (dp_of x hp.1 h1) (dps_of xs hp.2 h2)
end
theorem ev_eqD (h : Ev B false ta env fun x => Ev B false tb env fun y => (pureD x = true ∧ pureD y = true ∧ SeqAt.shaped (toPy x) = true ∧ SeqAt.shaped (toPy y) = true) ∧ P (.bl (PyData.eqv (toPy x) (toPy y)))) : Ev B m (tOp (rEqD K) ta tb) env P :=
  ev_op2 h fun dx dy x y F H σ Q E rx ry hp k =>
    ⟨toPy dx, toPy dy, dp_of dx hp.1.1 rx, dp_of dy hp.1.2.1 ry, hp.1.2.2.1, hp.1.2.2.2, k _ _ F H hp.2 E (Gr.refl F H) (Rp.bl_iff.mpr rfl)⟩
theorem ev_neD (h : Ev B false ta env fun x => Ev B false tb env fun y => (pureD x = true ∧ pureD y = true ∧ SeqAt.shaped (toPy x) = true ∧ SeqAt.shaped (toPy y) = true) ∧ P (.bl (!PyData.eqv (toPy x) (toPy y)))) : Ev B m (tOp (rNeD K) ta tb) env P :=
  ev_op2 h fun dx dy x y F H σ Q E rx ry hp k =>
    ⟨toPy dx, toPy dy, dp_of dx hp.1.1 rx, dp_of dy hp.1.2.1 ry, hp.1.2.2.1, hp.1.2.2.2, k _ _ F H hp.2 E (Gr.refl F H) (Rp.bl_iff.mpr rfl)⟩

/-! the script, raw -/
theorem ev_lenRaw {i : Nat} {a : Addr} {ns : List Int} (hi : env[i]? = some (.dat (.raw a))) (hS : SqL K B.H0 a (ns.map V.int)) (h : P (.int ns.length)) : Ev B m (tCB (rLenL K) (tCons (tVar i) tNil)) env P := fun F H σ E Q q => by
  obtain ⟨v, h1, h2⟩ := E.dat hi
  rw [Rp.raw_iff.mp h2] at h1
  have hS' : SqL K H a (ns.map V.int) := by
    rcases hS with (z | ⟨o, z⟩) | z
    · exact .inl (.inl (E.hh _ _ z))
    · exact .inl (.inr ⟨o, E.hh _ _ z⟩)
    · exact .inr z
  refine ⟨.ref a, h1, a, ns.map V.int, rfl, .inl hS', ?_⟩
  rw [List.length_map]
  exact q _ _ F H h E (Gr.refl F H) (Rp.int_iff.mpr rfl)
theorem ev_ixRaw {i : Nat} {a : Addr} {ns : List Int} (hi : env[i]? = some (.dat (.raw a))) (hS : SqL K B.H0 a (ns.map V.int)) (h : Ev B false tb env fun y => ∃ (k : Nat) (z : Int), y = .int k ∧ ns[k]? = some z ∧ P (.int z)) : Ev B m (tOp (rIxL K) (tVar i) tb) env P := fun F H σ E Q q => by
  obtain ⟨v, h1, h2⟩ := E.dat hi
  rw [Rp.raw_iff.mp h2] at h1
  refine ⟨.ref a, h1, h F H σ E _ fun d w F1 H1 k1 E1 g1 r1 => ?_⟩
  obtain ⟨k, z, rfl, hz, hp⟩ := k1
  have hS' : SqL K H1 a (ns.map V.int) := by
    rcases hS with (z | ⟨o, z⟩) | z
    · exact .inl (.inl (E1.hh _ _ z))
    · exact .inl (.inr ⟨o, E1.hh _ _ z⟩)
    · exact .inr z
  exact ⟨a, ns.map V.int, k, .int z, rfl, Rp.int_iff.mp r1, hS', atI_nat (by rw [List.getElem?_map, hz]; rfl), q _ _ F1 H1 hp E1 g1 (Rp.int_iff.mpr rfl)⟩
theorem ev_ixN {i : Nat} {xs : List Dt} {k : Nat} {d : Dt} (h : xs[k]? = some d) : L2.atI xs (k : Int) = some d := atI_nat h
/-- xs[k] += e, a list of the def's own of ints -/
theorem wp_augL {D : Ends} {i : Nat} {xs : List Dt} {f : Int → Int → Int} (hi : env[i]? = some (.own xs))
    (h : Ev B false ta env fun y => ∃ (k : Nat) (z : Int), y = .int k ∧ k < 1000000 ∧ xs[k]? = some (.int z) ∧ Ev B false te env fun w => ∃ c, w = .int c ∧ Nx B (env.set i (.own (xs.set k (.int (f z c))))) D.nx) :
    Wp B (tAugS (tVar i) ta te (rGetL K) (ipI f) rSetL) env D := fun F H σ E => by
  obtain ⟨p, vs, e1, e2, e3, e4, e5⟩ := E.own hi
  refine ⟨.ref p, e1, h F H σ E _ fun y v F1 H1 h1 E1 g1 r1 => ?_⟩
  obtain ⟨k, z, rfl, hk, hz, h2⟩ := h1
  obtain ⟨w, hw, rw'⟩ := e5.get hz
  refine ⟨p, vs, k, w, rfl, Rp.int_iff.mp r1, SqL.of (g1.h _ _ e4), by omega, by omega, by simpa using hw, ?_⟩
  refine h2 F1 H1 σ E1 _ fun d u F2 H2 h3 E2 g2 r2 => ?_
  obtain ⟨c, rfl, hn⟩ := h3
  refine ⟨z, c, Rp.int_iff.mp rw', Rp.int_iff.mp r2, ?_⟩
  have g := g1.trans g2
  refine ⟨p, vs, k, k, rfl, Rp.int_iff.mp r1, g.h _ _ e4, ?_, hn F2 _ σ ?_⟩
  · have : k < vs.length := (List.getElem?_eq_some_iff.mp hw).1
    unfold ixN
    rw [if_pos (by omega), if_pos (by omega)]
    simp
  · exact E2.putOwn hi e1 (RpAll.set (Rp.int_iff.mpr rfl) k (RpAll.mono g.f xs e5))
/-- truth: a list, a text, an int -/
def TruP (PT PF : Prop) : Dt → Prop
  | .list xs => (xs ≠ [] → PT) ∧ (xs = [] → PF)
  | .str xs => xs.length ≤ 1000000 ∧ (xs ≠ [] → PT) ∧ (xs = [] → PF)
  | .int i => (i ≠ 0 → PT) ∧ (i = 0 → PF)
  | _ => False
end

/-! ### _law_deck, _law_take -/
section
variable {P : Program} {w : World} {K : PySem.W.Frag} {mg : Str → Option Value} {base : Heap}
def WpDeck (K : PySem.W.Frag) (t : TS) (n : Nat) : Prop := ∀ (B : Bs) (Q : VK) (a : Addr) (ns : List Int) (c e : Int), SqL K B.H0 a (ns.map V.int) → ns.length ≤ 1000 → 0 ≤ c → c ≤ 100 → 0 ≤ e → e ≤ 100 →
  (∀ d H' (ms : List Int), B.H0 d = none → Ex B.H0 H' → H' d = some (.lst (ms.map V.int)) → ms.length ≤ 100000 → (∀ k ∈ ms, 0 ≤ k) → Q (.ref d) H') → Wp B t ([.dat (.raw a), .dat (.int c), .dat (.int e)] ++ List.replicate (n - 3) Sl.no) (Top Q)
theorem okDeck {x qual : Str} {st : Stmt} {f : Addr} {fd : FuncData} {N : List Str} {p1 p2 p3 : Str} {k : Nat} {t : TS} (F : Fun K x qual st f fd) (SC : FnScope N [p1, p2, p3] (defScope st)) (hps : 3 ≤ N.length)
    (hbody : ∀ (cdv : Value) (A : Around) (outer : List Env) (s : Shared) (H : Hp) (E : XK), Room k (A.deeper (envOfC qual (defScope st) s.heap.objs.size f cdv)) →
      PSs (cxOf CX0 P w K mg base N qual (defScope st) f cdv A outer s H E).nox (defBody st) t) (hw : WpDeck K t N.length) :
    FnOk P w K mg base CX0 (k + 1) f fd [p1, p2, p3] (spDeck0 K) := by
  refine F.ok SC (fun vs H Q E h => ?_) (fun cdv A outer s H vs Q E hr h => ?_)
  · obtain ⟨a, ns, c, e, rfl, _⟩ := h
    rfl
  · obtain ⟨a, ns, c, e, rfl, h1, h2, h3, h4, h5, h6, h7⟩ := h
    refine ⟨t, hbody cdv A outer s H E hr, ?_⟩
    exact hw ⟨H, fun _ => none, []⟩ Q a ns c e h1 h2 h3 h4 h5 h6 h7 (fun _ => none) H _ (envOk_start (G := fun _ => none) (args := [.raw a, .int c, .int e]) (fun _ _ z => by cases z) (RpAll.cons (Rp.raw_iff.mpr rfl) (RpAll.cons (Rp.int_iff.mpr rfl) (RpAll.cons (Rp.int_iff.mpr rfl) RpAll.nil))) hps)
theorem okTake {x qual : Str} {st : Stmt} {f : Addr} {fd : FuncData} {N : List Str} {p1 p2 : Str} {k : Nat} {t : TS} (F : Fun K x qual st f fd) (SC : FnScope N [p1, p2] (defScope st)) (hps : 2 ≤ N.length)
    (hbody : ∀ (cdv : Value) (A : Around) (outer : List Env) (s : Shared) (H : Hp) (E : XK), Room k (A.deeper (envOfC qual (defScope st) s.heap.objs.size f cdv)) →
      PSs (cxOf CX0 P w K mg base N qual (defScope st) f cdv A outer s H E).nox (defBody st) t)
    (hw : ∀ (H : Hp) (Q : VK) (d : Addr) (ns : List Int) (n : Int), H d = some (.lst (ns.map V.int)) → ns.length ≤ 100000 → (∀ k ∈ ns, 0 ≤ k) → 0 < n → (∀ (r : Int) (ms : List Int), 0 ≤ r → r < n → ms.length ≤ 100000 → (∀ k ∈ ms, 0 ≤ k) → Q (.int r) (upd H d (.lst (ms.map V.int)))) →
      t (Top Q) (L2.start N [.ref d, .int n]) H) :
    FnOk P w K mg base CX0 (k + 1) f fd [p1, p2] spTake0 := by
  refine F.ok SC (fun vs H Q E h => ?_) (fun cdv A outer s H vs Q E hr h => ?_)
  · obtain ⟨d, ns, n, rfl, _⟩ := h
    rfl
  · obtain ⟨d, ns, n, rfl, h1, h2, h3, h4, h5⟩ := h
    exact ⟨t, hbody cdv A outer s H E hr, hw H Q d ns n h1 h2 h3 h4 h5⟩
end
end DL

set_option Elab.async false
set_option linter.all false
set_option maxRecDepth 100000
set_option maxHeartbeats 4000000
set_option autoImplicit false
namespace DL
open PySem PySem.Spec PyProof.Rows L2
theorem lenP_l {P : Dt → Prop} {xs : List Dt} (h : P (.int xs.length)) : LenP P (.list xs) := h
theorem lenP_t {P : Dt → Prop} {xs : List Dt} (h : P (.int xs.length)) : LenP P (.tup xs) := h
theorem take_i {n : Int} {Φ : Dt → Prop} (h0 : 0 < n) (h : ∀ r : Int, 0 ≤ r → r < n → Φ (.int r)) : rTake [.deck, .int n] Φ := ⟨n, rfl, h0, h⟩
/-- the rest once: J is what it is to begin with -/
theorem wp_rest {B : Bs} {t u : TS} {env : List Sl} {D : Ends} (J : List Sl → Prop) (h : ∀ env', J env' → Wp B u env' D) (k : ∀ u', (∀ env', J env' → Wp B u' env' D) → Wp B t env (Sq u' D)) : Wp B t env (Sq u D) := k u h
theorem atI_nn {α : Type} {xs : List α} {i : Int} {v : α} (h0 : 0 ≤ i) (h : xs[i.toNat]? = some v) : L2.atI xs i = some v := by
  have := atI_nat h
  rwa [Int.toNat_of_nonneg h0] at this
theorem leaf_ixS {xs : List Nat} {i : Int} {R : Nat → Prop} (hl : xs.length ≤ 1000000) (h0 : 0 ≤ i) (h1 : i < xs.length) (h : ∀ c, xs[i.toNat]? = some c → R c) :
    ∃ (ys : List Nat) (j : Int) (c : Nat), Dt.str xs = .str ys ∧ Dt.int i = .int j ∧ ys.length ≤ 1000000 ∧ L2.atI ys j = some c ∧ R c := by
  have hi : i.toNat < xs.length := by omega
  exact ⟨xs, i, xs[i.toNat], rfl, rfl, hl, atI_nn h0 (List.getElem?_eq_getElem hi), h _ (List.getElem?_eq_getElem hi)⟩
theorem leaf_ixL {xs : List Dt} {i : Int} {R : Dt → Prop} (h0 : 0 ≤ i) (h1 : i < xs.length) (h : ∀ d, xs[i.toNat]? = some d → R d) :
    ∃ (j : Int) (d : Dt), Dt.int i = .int j ∧ L2.atI xs j = some d ∧ R d := by
  have hi : i.toNat < xs.length := by omega
  exact ⟨i, xs[i.toNat], rfl, atI_nn h0 (List.getElem?_eq_getElem hi), h _ (List.getElem?_eq_getElem hi)⟩
theorem leaf_ixI {xs : List Int} {i : Int} {R : Dt → Prop} (h0 : 0 ≤ i) (h1 : i < xs.length) (h : ∀ d, xs[i.toNat]? = some d → R (.int d)) :
    ∃ (j : Int) (d : Dt), Dt.int i = .int j ∧ L2.atI (xs.map Dt.int) j = some d ∧ R d :=
  leaf_ixL h0 (by rw [List.length_map]; exact h1) fun d hd => by
    rw [List.getElem?_map] at hd
    cases e : xs[i.toNat]? with
    | none => rw [e] at hd; cases hd
    | some z => rw [e] at hd; cases hd; exact h z e
theorem leaf_ixStr {xs : List (List Nat)} {i : Int} {R : Dt → Prop} (h0 : 0 ≤ i) (h1 : i < xs.length) (h : ∀ d, xs[i.toNat]? = some d → R (.str d)) :
    ∃ (j : Int) (d : Dt), Dt.int i = .int j ∧ L2.atI (xs.map Dt.str) j = some d ∧ R d :=
  leaf_ixL h0 (by rw [List.length_map]; exact h1) fun d hd => by
    rw [List.getElem?_map] at hd
    cases e : xs[i.toNat]? with
    | none => rw [e] at hd; cases hd
    | some z => rw [e] at hd; cases hd; exact h z e
theorem sIx_nn (n d : Nat) {i : Int} (h : 0 ≤ i) : HT.sIx n d (some i) = min i.toNat n := by
  show (if i < 0 then (i + (n : Int)).toNat else min i.toNat n) = _
  rw [if_neg (by omega)]
theorem cutL_take {α : Type} (xs : List α) {i : Int} (h : 0 ≤ i) : cutL xs none (some i) = xs.take i.toNat := by
  unfold cutL
  rw [sIx_nn _ _ h, HT.sIx_none, Nat.sub_zero, List.drop_zero]
  by_cases hi : i.toNat ≤ xs.length
  · rw [Nat.min_eq_left hi]
  · rw [Nat.min_eq_right (by omega), List.take_length, List.take_of_length_le (by omega)]
theorem cutL_drop {α : Type} (xs : List α) {i : Int} (h : 0 ≤ i) : cutL xs (some i) none = xs.drop i.toNat := by
  unfold cutL
  rw [sIx_nn _ _ h, HT.sIx_none]
  by_cases hi : i.toNat ≤ xs.length
  · rw [Nat.min_eq_left hi]
    exact List.take_of_length_le (by rw [List.length_drop]; exact Nat.le_refl _)
  · rw [Nat.min_eq_right (by omega), Nat.sub_self, List.take_zero, List.drop_of_length_le (by omega)]
theorem cutL_mid {α : Type} (xs : List α) {i j : Int} (h : 0 ≤ i) (h' : 0 ≤ j) : cutL xs (some i) (some j) = (xs.drop i.toNat).take (j.toNat - i.toNat) := by
  unfold cutL
  rw [sIx_nn _ _ h, sIx_nn _ _ h']
  by_cases hi : i.toNat ≤ xs.length
  · rw [Nat.min_eq_left hi]
    by_cases hj : j.toNat ≤ xs.length
    · rw [Nat.min_eq_left hj]
    · rw [Nat.min_eq_right (by omega), List.take_of_length_le (by rw [List.length_drop]; omega), List.take_of_length_le (by rw [List.length_drop]; omega)]
  · rw [Nat.min_eq_right (Nat.le_of_lt (Nat.lt_of_not_le hi)), List.drop_of_length_le (Nat.le_refl _), List.drop_of_length_le (by omega), List.take_nil, List.take_nil]
theorem cutL_len {α : Type} (xs : List α) (l u : Option Int) : (cutL xs l u).length ≤ xs.length := by
  unfold cutL
  rw [List.length_take, List.length_drop]
  omega
theorem cutL_all {α : Type} (xs : List α) : cutL xs none none = xs := by
  unfold cutL
  rw [HT.sIx_none, HT.sIx_none, Nat.sub_zero, List.drop_zero, List.take_length]
theorem ixN_nn {n : Nat} {k : Int} (h0 : 0 ≤ k) (h1 : k < n) : ixN n k = some k.toNat := by
  unfold ixN
  rw [if_pos h0, if_pos h1]
theorem leaf_set {n : Nat} {k : Int} {R : Nat → Prop} (h0 : 0 ≤ k) (h1 : k < n) (h : R k.toNat) : ∃ (j : Int) (m : Nat), Dt.int k = .int j ∧ ixN n j = some m ∧ R m := ⟨k, k.toNat, rfl, ixN_nn h0 h1, h⟩
theorem toNat_nat (n : Nat) : ((n : Int)).toNat = n := Int.toNat_natCast n
/-- a comprehension that keeps all, one value each -/
theorem ct_map {B : Bs} {te : TE} {env : List Sl} {j : Nat} {xs : List Dt} {f : Dt → Dt} {PL : List Dt → Prop} (hl : xs.length ≤ 1000000) (h : ∀ (i : Nat) (d : Dt), xs[i]? = some d → Ev B true te (env.set j (.dat d)) (fun y => y = f d)) (hP : PL (xs.map f)) :
    ∃ INV : Nat → List Dt → Prop, INV 0 [] ∧ (∀ i d, xs[i]? = some d → CT B tYes te env j INV i d) ∧ ∀ acc, INV xs.length acc → PL acc := by
  refine ⟨fun i acc => acc = (xs.take i).map f, by simp, fun i d hd acc ha => et_yes (ev_imp (h i d hd) fun y hy => ?_), fun acc ha => ?_⟩
  · subst hy ha
    have hi : i < xs.length := (List.getElem?_eq_some_iff.mp hd).1
    refine ⟨by rw [List.length_map, List.length_take]; omega, ?_⟩
    dsimp only
    rw [List.take_add_one, hd]
    simp
  · rw [ha, List.take_length]
    exact hP
theorem ct_mapI {B : Bs} {te : TE} {env : List Sl} {j : Nat} {xs : List Int} {f : Int → Dt} {PL : List Dt → Prop} (hl : xs.length ≤ 1000000) (h : ∀ (i : Nat) (z : Int), xs[i]? = some z → Ev B true te (env.set j (.dat (.int z))) (fun y => y = f z)) (hP : PL (xs.map f)) :
    ∃ INV : Nat → List Dt → Prop, INV 0 [] ∧ (∀ i d, (xs.map Dt.int)[i]? = some d → CT B tYes te env j INV i d) ∧ ∀ acc, INV (xs.map Dt.int).length acc → PL acc := by
  refine ⟨fun i acc => acc = (xs.take i).map f, by simp, fun i d hd acc ha => ?_, fun acc ha => ?_⟩
  · rw [List.getElem?_map] at hd
    cases e : xs[i]? with
    | none => rw [e] at hd; cases hd
    | some z =>
      rw [e] at hd
      cases hd
      refine et_yes (ev_imp (h i z e) fun y hy => ?_)
      subst hy ha
      have hi : i < xs.length := (List.getElem?_eq_some_iff.mp e).1
      refine ⟨by rw [List.length_map, List.length_take]; omega, ?_⟩
      dsimp only
      rw [List.take_add_one, e]
      simp
  · rw [List.length_map] at ha
    rw [ha, List.take_length]
    exact hP
/-- over a text, one value for each sign -/
theorem ct_mapS {B : Bs} {te : TE} {env : List Sl} {j : Nat} {z : List Nat} {f : Nat → Dt} {PL : List Dt → Prop} (hl : z.length ≤ 1000000) (h : ∀ (i c : Nat), z[i]? = some c → Ev B true te (env.set j (.dat (.str [c]))) (fun y => y = f c)) (hP : PL (z.map f)) :
    ∃ INV : Nat → List Dt → Prop, INV 0 [] ∧ (∀ (i c : Nat), z[i]? = some c → CT B tYes te env j INV i (.str [c])) ∧ ∀ acc, INV z.length acc → PL acc := by
  refine ⟨fun i acc => acc = (z.take i).map f, by simp, fun i d hd acc ha => et_yes (ev_imp (h i d hd) fun y hy => ?_), fun acc ha => ?_⟩
  · subst hy ha
    have hi : i < z.length := (List.getElem?_eq_some_iff.mp hd).1
    refine ⟨by rw [List.length_map, List.length_take]; omega, ?_⟩
    dsimp only
    rw [List.take_add_one, hd]
    simp
  · rw [ha, List.take_length]
    exact hP
/-- over a range, tested -/
theorem ct_range {B : Bs} {tt : TT} {te : TE} {env : List Sl} {j n : Nat} {lo : Int} {p : Int → Bool} {f : Int → Dt} {PL : List Dt → Prop} (hl : n ≤ 1000000) (h : ∀ i : Nat, i < n → Et B tt (env.set j (.dat (.int (lo + i)))) (p (lo + i) = true ∧ Ev B true te (env.set j (.dat (.int (lo + i)))) (fun y => y = f (lo + i))) (p (lo + i) = false))
    (hP : PL ((((List.range n).map fun i : Nat => lo + (i : Int)).filter p).map f)) :
    ∃ INV : Nat → List Dt → Prop, INV 0 [] ∧ (∀ i : Nat, i < n → CT B tt te env j INV i (.int (lo + i))) ∧ ∀ acc, INV n acc → PL acc := by
  refine ⟨fun i acc => acc = (((List.range i).map fun i : Nat => lo + (i : Int)).filter p).map f, by simp, fun i hi acc ha => et_imp (h i hi) (fun ⟨hp, he⟩ => ev_imp he fun y hy => ?_) (fun hp => ?_), fun acc ha => by rw [ha]; exact hP⟩
  · subst hy ha
    refine ⟨?_, ?_⟩
    · rw [List.length_map]
      have := List.length_filter_le p ((List.range i).map fun i : Nat => lo + (i : Int))
      rw [List.length_map, List.length_range] at this
      omega
    · dsimp only
      rw [List.range_succ, List.map_append, List.filter_append, List.map_append]
      simp [hp]
  · subst ha
    rw [List.range_succ, List.map_append, List.filter_append, List.map_append]
    simp [hp]
/-- over range(n), tested -/
theorem ct_range0 {B : Bs} {tt : TT} {te : TE} {env : List Sl} {j n : Nat} {p : Int → Bool} {f : Int → Dt} {PL : List Dt → Prop} (hl : n ≤ 1000000) (h : ∀ i : Nat, i < n → Et B tt (env.set j (.dat (.int i))) (p i = true ∧ Ev B true te (env.set j (.dat (.int i))) (fun y => y = f i)) (p i = false))
    (hP : PL ((((List.range n).map fun i : Nat => (i : Int)).filter p).map f)) :
    ∃ INV : Nat → List Dt → Prop, INV 0 [] ∧ (∀ i : Nat, i < n → CT B tt te env j INV i (.int i)) ∧ ∀ acc, INV n acc → PL acc := by
  have := ct_range (B := B) (tt := tt) (te := te) (env := env) (j := j) (n := n) (lo := 0) (p := p) (f := f) (PL := PL) hl (fun i hi => by rw [Int.zero_add]; exact h i hi) (by simpa only [Int.zero_add] using hP)
  simpa only [Int.zero_add] using this
theorem eqP_int {P : Dt → Prop} {i j : Int} (h : P (.bl (decide (i = j)))) : EqP false P (.int i) (.int j) := by show P (.bl (false ^^ _)); rw [Bool.false_xor]; exact h
theorem eqP_str {P : Dt → Prop} {i j : List Nat} (h : P (.bl (decide (i = j)))) : EqP false P (.str i) (.str j) := by show P (.bl (false ^^ _)); rw [Bool.false_xor]; exact h
theorem eqP_bl {P : Dt → Prop} {i j : Bool} (h : P (.bl (decide (i = j)))) : EqP false P (.bl i) (.bl j) := by show P (.bl (false ^^ _)); rw [Bool.false_xor]; exact h
theorem neP_int {P : Dt → Prop} {i j : Int} (h : P (.bl (!decide (i = j)))) : EqP true P (.int i) (.int j) := by show P (.bl (true ^^ _)); rw [Bool.true_xor]; exact h
theorem neP_str {P : Dt → Prop} {i j : List Nat} (h : P (.bl (!decide (i = j)))) : EqP true P (.str i) (.str j) := by show P (.bl (true ^^ _)); rw [Bool.true_xor]; exact h
theorem neP_bl {P : Dt → Prop} {i j : Bool} (h : P (.bl (!decide (i = j)))) : EqP true P (.bl i) (.bl j) := by show P (.bl (true ^^ _)); rw [Bool.true_xor]; exact h
end DL

set_option Elab.async false
set_option linter.all false
set_option maxRecDepth 100000
set_option maxHeartbeats 4000000
set_option autoImplicit false
namespace DL
open PySem PySem.Spec PyProof.Rows L2
local macro_rules | `(tactic| walk_at "lit") => `(tactic| fail "lit")
local macro_rules | `(tactic| walk_at "side") => `(tactic| first | omega | (simp only [CMul, CDiv, CPow, List.length_nil, List.length_cons, List.length_map, List.length_append, List.length_replicate]; omega) | decide | (simp; done) | (simp; omega))
local macro_rules | `(tactic| walk_at "es1") => `(tactic| first
  | ((with_reducible refine es_own (xs := ?dld) ?dlh ?_); (case dlh => exact rfl))
  | ((with_reducible refine es_el ?_); walk_at "el1")
  | with_reducible refine es_ev ?_)
local macro_rules | `(tactic| walk_at "el1") => `(tactic| first
  | with_reducible refine el_lst ?_
  | with_reducible refine el_cat ?_
  | with_reducible refine el_rep ?_
  | with_reducible refine el_listOf ?_
  | with_reducible refine el_revL ?_
  | with_reducible refine el_slL ?_
  | with_reducible refine el_sortedI ?_
  | with_reducible refine el_call ?_)
local macro_rules | `(tactic| walk_at "et1") => `(tactic| first
  | with_reducible refine et_ib ?_
  | with_reducible refine et_eq ?_
  | with_reducible refine et_ne ?_
  | with_reducible refine et_and ?_
  | with_reducible refine et_or ?_
  | with_reducible refine et_not ?_
  | with_reducible refine et_ltS ?_
  | with_reducible refine et_gtS ?_
  | with_reducible refine et_leS ?_
  | with_reducible refine et_geS ?_
  | with_reducible refine et_yes ?_
  | with_reducible refine et_test ?_
  | with_reducible refine et_B ?_)
local macro_rules | `(tactic| walk_at "ev1") => `(tactic| first
  | ((with_reducible refine ev_var (d := ?dld) ?dlh ?_); (case dlh => exact rfl))
  | with_reducible refine ev_int ?_
  | with_reducible refine ev_ii ?_
  | with_reducible refine ev_iiC ?_
  | ((with_reducible refine ev_own (xs := ?dld) ?dlh ?_); (case dlh => exact rfl))
  | ((with_reducible refine ev_str (x := ?dld) ?dlh ?_); (case dlh => walk_at "lit"))
  | with_reducible refine ev_int1 ?_
  | with_reducible refine ev_call ?_
  | with_reducible refine ev_lenS ?_
  | ((with_reducible refine ev_lenRaw (a := ?dla) (ns := ?dln) ?dlh ?dls ?_); (case dlh => exact rfl); (case dls => assumption))
  | with_reducible refine ev_lenL ?_
  | with_reducible refine ev_ixS ?_
  | ((with_reducible refine ev_ixRaw (a := ?dla) (ns := ?dln) ?dlh ?dls ?_); (case dlh => exact rfl); (case dls => assumption))
  | with_reducible refine ev_ixL ?_
  | with_reducible refine ev_ixT ?_
  | with_reducible refine ev_slS ?_
  | with_reducible refine ev_addS ?_
  | with_reducible refine ev_mulS ?_
  | with_reducible refine ev_revS ?_
  | with_reducible refine ev_bl ?_
  | with_reducible refine ev_non ?_
  | with_reducible refine ev_ib ?_
  | with_reducible refine ev_eq ?_
  | with_reducible refine ev_ne ?_
  | with_reducible refine ev_neg ?_
  | with_reducible refine ev_tup ?_
  | with_reducible refine ev_abs ?_
  | with_reducible refine ev_max2 ?_
  | with_reducible refine ev_min2 ?_
  | with_reducible refine ev_sum ?_
  | with_reducible refine ev_all ?_
  | with_reducible refine ev_any ?_
  | with_reducible refine ev_if ?_
  | with_reducible refine ev_notV ?_
  | with_reducible refine ev_andV ?_
  | with_reducible refine ev_orV ?_
  | with_reducible refine ev_isNn ?_
  | with_reducible refine ev_notNn ?_
  | with_reducible refine ev_isBl ?_
  | with_reducible refine ev_notBl ?_
  | with_reducible refine ev_isV ?_
  | with_reducible refine ev_isiT ?_
  | with_reducible refine ev_isi ?_
  | with_reducible refine ev_chainS ?_
  | with_reducible refine ev_chainI ?_
  | with_reducible refine ev_ltS ?_
  | with_reducible refine ev_leS ?_
  | with_reducible refine ev_in ?_
  | with_reducible refine ev_join ?_
  | with_reducible refine ev_maxL ?_
  | with_reducible refine ev_minL ?_
  | with_reducible refine ev_eqD ?_
  | with_reducible refine ev_neD ?_
  | ((with_reducible refine ev_el ?_); walk_at "el1"))
local macro_rules | `(tactic| walk_at "wp1") => `(tactic| first
  | with_reducible refine wp_seq ?_
  | with_reducible refine nx_sq ?_
  | ((with_reducible refine wp_asgO ?_); first | with_reducible refine el_lst ?_ | with_reducible refine el_rep ?_)
  | with_reducible refine wp_asg ?_
  | with_reducible refine wp_if ?_
  | ((with_reducible refine wp_aug (a := ?dld) ?dlh ?_); (case dlh => exact rfl))
  | ((with_reducible refine wp_append (xs := ?dld) ?dlh ?_); (case dlh => exact rfl))
  | ((with_reducible refine wp_setL (xs := ?dld) ?dlh ?_); (case dlh => exact rfl))
  | ((with_reducible refine wp_reverse (xs := ?dld) ?dlh ?_); (case dlh => exact rfl))
  | with_reducible refine wp_par ?_
  | with_reducible refine wp_tup2 ?_
  | with_reducible refine wp_drop ?_
  | with_reducible refine wp_next ?_
  | with_reducible refine wp_break ?_
  | with_reducible refine wp_continue ?_
  | (refine wp_ret (Φ := ?dld) ?dlr ?_; (case dlr => assumption)))
local macro_rules | `(tactic| walk_at "lf1") => `(tactic| first
  | with_reducible refine eqT_int ?_ ?_
  | with_reducible refine eqT_str ?_ ?_
  | with_reducible refine eqT_bl ?_ ?_
  | with_reducible refine eqP_int ?_
  | with_reducible refine eqP_str ?_
  | with_reducible refine eqP_bl ?_
  | with_reducible refine neP_int ?_
  | with_reducible refine neP_str ?_
  | with_reducible refine neP_bl ?_
  | with_reducible refine lenP_l ?_
  | with_reducible refine lenP_t ?_
  | with_reducible refine ⟨_, _, rfl, rfl, ?_⟩
  | with_reducible refine ⟨_, rfl, ?_⟩
  | with_reducible refine ⟨_, _, rfl, ?_⟩
  | with_reducible refine Or.inl ⟨_, rfl, ?_⟩
  | with_reducible refine Or.inr ⟨_, rfl, ?_⟩
  | ((with_reducible refine And.intro ?dls ?_); (case dls => walk_at "side")))
local macro_rules | `(tactic| walk_at "w1") => `(tactic| first
  | ((with_reducible show Ev _ _ _ _ _); walk_at "ev1")
  | ((with_reducible show Ea _ _ _ _ _); first | with_reducible refine ea_cons ?_ | with_reducible refine ea_nil ?_)
  | ((with_reducible show Et _ _ _ _ _); walk_at "et1")
  | ((with_reducible show Es _ _ _ _); walk_at "es1")
  | ((with_reducible show Eo _ _ _ _); first | with_reducible refine eo_none ?_ | with_reducible refine eo_some ?_)
  | ((with_reducible show El _ _ _ _); walk_at "el1")
  | walk_at "wp1"
  | walk_at "lf1")
local macro_rules | `(tactic| walk_at "w") => `(tactic| repeat walk_at "w1")
theorem lit_e : ("" : Str) = S [] := by decide +kernel
local macro_rules | `(tactic| walk_at "lit") => `(tactic| with_reducible exact lit_e)

/-! ### _law_word -/
def t_law_word (K : PySem.W.Frag) : TS :=
  (tSeq (tAsg (tC (.str "")) (gName 3))
  (tSeq (tAsg (tC (.int 0)) (gName 4))
  (tSeq (tFor (iRng1 (tCons (tCall (spD 2 rTake) [] E0 (tCons (tVar 0) (tCons (tOp (rI0 fun i j => .int (i + j)) (tVar 2) (tC (.int 1))) tNil))) tNil)) (gName 5) (tSeq (tIfS (tTest (tOp rEq (tOp (rI (fun _ j => 0 < j) fun i j => .int (i % j)) (tCB rInt1 (tCons (tVar 5) tNil)) (tC (.int 4))) (tC (.int 0)))) (tAsg (tCall (spD 2 rTake) [] E0 (tCons (tVar 0) (tCons (tC (.int 1000003)) tNil))) (gName 4)) tNext)
  (tSeq (tAsg (tOp rAddS (tVar 3) (tOp rIxS (tVar 1) (tOp (rI (fun _ j => 0 < j) fun i j => .int (i % j)) (tCB rInt1 (tCons (tVar 4) tNil)) (tCB rLenS (tCons (tVar 1) tNil))))) (gName 3))
  (tAsg (tOp (rI CDiv fun i j => .int (i / j)) (tVar 4) (tCB rLenS (tCons (tVar 1) tNil))) (gName 4)))))
  (tRet (tVar 3)))))
/-- a word over the letters comes, of at most so many -/
def rWord : Rd1 := fun args Φ => ∃ (l : List Nat) (n : Int), args = [.deck, .str l, .int n] ∧ 0 < l.length ∧ l.length ≤ 100 ∧ 0 ≤ n ∧ n ≤ 100000 ∧ ∀ w : List Nat, (∀ c ∈ w, c ∈ l) → w.length ≤ n.toNat → Φ (.str w)
theorem word_i {l : List Nat} {n : Int} {Φ : Dt → Prop} (h1 : 0 < l.length) (h2 : l.length ≤ 100) (h3 : 0 ≤ n ∧ n ≤ 100000) (h : ∀ w : List Nat, (∀ c ∈ w, c ∈ l) → w.length ≤ n.toNat → Φ (.str w)) : rWord [.deck, .str l, .int n] Φ := ⟨l, n, rfl, h1, h2, h3.1, h3.2, h⟩
theorem w_law_word {K : PySem.W.Frag} : WpD (t_law_word K) 6 rWord := by
  rintro B Q args Φ ⟨l, n, rfl, h1, h2, h3, h4, hΦ⟩ hr
  show Wp B (t_law_word K) [.dat .deck, .dat (.str l), .dat (.int n), .no, .no, .no] (Top Q)
  unfold t_law_word
  walk_at "w"
  refine wp_forR1 ?_
  walk_at "w"
  refine take_i (by omega) fun k k0 k1 => ?_
  walk_at "w"
  refine ⟨fun i env' => ∃ (w : List Nat) (r : Int) (x : Sl), env' = [.dat .deck, .dat (.str l), .dat (.int n), .dat (.str w), .dat (.int r), x] ∧ (∀ c ∈ w, c ∈ l) ∧ w.length ≤ i ∧ 0 ≤ r, ?_, ?_, ?_⟩
  · exact ⟨[], 0, _, rfl, by simp, by simp, by omega⟩
  · rintro i d env' hi rfl ⟨w, r, x, rfl, hw, hl, hr0⟩
    refine wp_seq ?_
    refine wp_rest (fun e => ∃ r : Int, e = [.dat .deck, .dat (.str l), .dat (.int n), .dat (.str w), .dat (.int r), .dat (.int i)] ∧ 0 ≤ r) ?_ (fun u hu => ?_)
    · rintro e ⟨r, rfl, hr0⟩
      walk_at "w"
      have hm1 : 0 ≤ r % (l.length : Int) := Int.emod_nonneg _ (by omega)
      have hm2 : r % (l.length : Int) < l.length := Int.emod_lt_of_pos _ (by omega)
      refine leaf_ixS (by omega) hm1 hm2 fun c hc => ?_
      walk_at "w"
      refine nx_lo ⟨w ++ [c], r / l.length, _, rfl, ?_, ?_, Int.ediv_nonneg hr0 (by omega)⟩
      · intro d hd
        rcases List.mem_append.mp hd with h | h
        · exact hw d h
        · rw [List.mem_singleton.mp h]
          exact List.mem_of_getElem? hc
      · rw [List.length_append, List.length_singleton]
        omega
    · walk_at "w"
      · intro hz
        walk_at "w"
        refine take_i (by omega) fun z z0 z1 => ?_
        walk_at "w"
        exact hu _ ⟨z, rfl, z0⟩
      · intro hz
        walk_at "w"
        exact hu _ ⟨r, rfl, hr0⟩
  · rintro env' ⟨w, r, x, rfl, hw, hl, hr0⟩
    walk_at "w"
    exact hΦ w hw (by omega)

/-! ### _law_long -/
def t_law_long (K : PySem.W.Frag) : TS :=
  (tSeq (tAsg (tCall (spD 3 rWord) [] E0 (tCons (tVar 0) (tCons (tVar 1) (tCons (tC (.int 6)) tNil)))) (gName 3))
  (tSeq (tFor (iRng1 (tCons (tOp (rI0 fun i j => .int (i + j)) (tC (.int 1)) (tCall (spD 2 rTake) [] E0 (tCons (tVar 0) (tCons (tC (.int 6)) tNil)))) tNil)) (gName 4) (tSeq (tAsg (tCall (spD 2 rTake) [] E0 (tCons (tVar 0) (tCons (tC (.int 5)) tNil))) (gName 5))
  (tSeq (tAsg (tCall (spD 3 rWord) [] E0 (tCons (tVar 0) (tCons (tVar 1) (tCons (tC (.int 7)) tNil)))) (gName 6))
  (tSeq (tIfS (tTest (tOp rEq (tVar 5) (tC (.int 0)))) (tAsg (tOp rAddS (tVar 3) (tOp rMulS (tVar 6) (tOp (rI0 fun i j => .int (i + j)) (tC (.int 1)) (tCall (spD 2 rTake) [] E0 (tCons (tVar 0) (tCons (tC (.int 7)) tNil)))))) (gName 3)) (tIfS (tTest (tOp rEq (tVar 5) (tC (.int 1)))) (tAsg (tOp rAddS (tOp rAddS (tVar 3) (tVar 6)) (tVar 3)) (gName 3)) (tIfS (tTest (tOp rEq (tVar 5) (tC (.int 2)))) (tAsg (tOp rAddS (tOp rAddS (tVar 3) (tVar 3)) (tVar 6)) (gName 3)) (tIfS (tTest (tOp rEq (tVar 5) (tC (.int 3)))) (tAsg (tOp rAddS (tVar 3) (tRevS (tVar 3))) (gName 3)) (tAsg (tOp rAddS (tVar 6) (tVar 3)) (gName 3))))))
  (tAsg (tSl rSlS (tVar 3) tNoPart (tPart (tVar 2))) (gName 3))))))
  (tRet (tVar 3))))
def rLong : Rd1 := fun args Φ => ∃ (l : List Nat) (n : Int), args = [.deck, .str l, .int n] ∧ 0 < l.length ∧ l.length ≤ 100 ∧ 0 ≤ n ∧ n ≤ 10000 ∧ ∀ w : List Nat, (∀ c ∈ w, c ∈ l) → w.length ≤ n.toNat → Φ (.str w)
theorem long_i {l : List Nat} {n : Int} {Φ : Dt → Prop} (h1 : 0 < l.length) (h2 : l.length ≤ 100) (h3 : 0 ≤ n ∧ n ≤ 10000) (h : ∀ w : List Nat, (∀ c ∈ w, c ∈ l) → w.length ≤ n.toNat → Φ (.str w)) : rLong [.deck, .str l, .int n] Φ := ⟨l, n, rfl, h1, h2, h3.1, h3.2, h⟩
theorem mem_app {l a b : List Nat} (ha : ∀ c ∈ a, c ∈ l) (hb : ∀ c ∈ b, c ∈ l) : ∀ c ∈ a ++ b, c ∈ l := fun c hc => (List.mem_append.mp hc).elim (ha c) (hb c)
theorem mem_rep {l a : List Nat} {n : Nat} (ha : ∀ c ∈ a, c ∈ l) : ∀ c ∈ (List.replicate n a).flatten, c ∈ l := fun c hc => by
  obtain ⟨x, hx, hcx⟩ := List.mem_flatten.mp hc
  rw [List.eq_of_mem_replicate hx] at hcx
  exact ha c hcx
theorem len_rep {α : Type} (n : Nat) (a : List α) : ((List.replicate n a).flatten).length = n * a.length := by
  rw [List.length_flatten, List.map_replicate, List.sum_replicate_nat]
theorem w_law_long {K : PySem.W.Frag} : WpD (t_law_long K) 7 rLong := by
  rintro B Q args Φ ⟨l, n, rfl, h1, h2, h3, h4, hΦ⟩ hr
  show Wp B (t_law_long K) [.dat .deck, .dat (.str l), .dat (.int n), .no, .no, .no, .no] (Top Q)
  unfold t_law_long
  walk_at "w"
  refine word_i (by omega) (by omega) (by omega) fun w hw hl => ?_
  walk_at "w"
  refine wp_forR1 ?_
  walk_at "w"
  refine take_i (by omega) fun k k0 k1 => ?_
  walk_at "w"
  refine ⟨fun i env' => ∃ (w : List Nat) (x y z : Sl), env' = [.dat .deck, .dat (.str l), .dat (.int n), .dat (.str w), x, y, z] ∧ (∀ c ∈ w, c ∈ l) ∧ w.length ≤ 10006 ∧ (0 < i → w.length ≤ n.toNat), ?_, ?_, ?_⟩
  · exact ⟨w, _, _, _, rfl, hw, by have : Int.toNat 6 = 6 := rfl; omega, fun h => absurd h (by omega)⟩
  · rintro i d env' hi rfl ⟨w, x, y, z, rfl, hw, hl, -⟩
    walk_at "w"
    refine take_i (by omega) fun way w0 w1 => ?_
    walk_at "w"
    refine word_i (by omega) (by omega) (by omega) fun p hp hpl => ?_
    have hpl' : p.length ≤ 7 := hpl
    refine nx_sq ?_
    refine wp_seq ?_
    refine wp_rest (fun e => ∃ w : List Nat, e = [.dat .deck, .dat (.str l), .dat (.int n), .dat (.str w), .dat (.int i), .dat (.int way), .dat (.str p)] ∧ (∀ c ∈ w, c ∈ l) ∧ w.length ≤ 100000) ?_ (fun u hu => ?_)
    · rintro e ⟨w, rfl, hw, hl⟩
      walk_at "w"
      rw [cutL_take _ h3]
      refine nx_lo ⟨_, _, _, _, rfl, fun c hc => hw c (List.mem_of_mem_take hc), ?_, fun _ => ?_⟩
      · rw [List.length_take]; omega
      · rw [List.length_take]; omega
    · walk_at "w"
      · intro hz
        walk_at "w"
        refine take_i (by omega) fun r r0 r1 => ?_
        walk_at "w"
        refine ⟨?_, ?_⟩
        · have : p.length * (1 + r).toNat ≤ 7 * 7 := Nat.mul_le_mul hpl' (by omega)
          omega
        have hrep : (List.replicate (1 + r).toNat p).flatten.length ≤ 49 := by
          rw [len_rep]
          have : (1 + r).toNat * p.length ≤ 7 * 7 := Nat.mul_le_mul (by omega) hpl'
          omega
        walk_at "w"
        exact hu _ ⟨_, rfl, mem_app hw (mem_rep hp), by rw [List.length_append]; omega⟩
      · intro hz
        walk_at "w"
        · intro hz
          walk_at "w"
          exact hu _ ⟨_, rfl, mem_app (mem_app hw hp) hw, by rw [List.length_append, List.length_append]; omega⟩
        · intro hz
          walk_at "w"
          · intro hz
            walk_at "w"
            exact hu _ ⟨_, rfl, mem_app (mem_app hw hw) hp, by rw [List.length_append, List.length_append]; omega⟩
          · intro hz
            walk_at "w"
            · intro hz
              walk_at "w"
              exact hu _ ⟨_, rfl, mem_app hw (fun c hc => hw c (List.mem_reverse.mp hc)), by rw [List.length_append, List.length_reverse]; omega⟩
            · intro hz
              walk_at "w"
              exact hu _ ⟨_, rfl, mem_app hp hw, by rw [List.length_append]; omega⟩
  · rintro env' ⟨w, x, y, z, rfl, hw, hl, hm⟩
    walk_at "w"
    exact hΦ w hw (hm (by omega))

/-! ### _law_divisor -/
def t_law_divisor (K : PySem.W.Frag) : TS :=
  (tSeq (tAsg (tCB rAbs (tCons (tVar 0) tNil)) (gName 2))
  (tSeq (tAsg (tCB rAbs (tCons (tVar 1) tNil)) (gName 3))
  (tSeq (tFor (iRng1 (tCons (tC (.int 20000)) tNil)) (gName 4) (tSeq (tIfS (tTest (tOp rEq (tVar 3) (tC (.int 0)))) (tRet (tVar 2)) tNext)
  (tPar 2 3 (tCons (tVar 3) (tCons (tOp (rI (fun _ j => 0 < j) fun i j => .int (i % j)) (tCB rInt1 (tCons (tVar 2) tNil)) (tVar 3)) tNil)))))
  (tRet (tVar 2)))))
def rDivisor : Rd1 := fun args Φ => ∃ a b : Int, args = [.int a, .int b] ∧ b.natAbs < 20000 ∧ Φ (.int (Int.gcd a b))
theorem divisor_i {a b : Int} {Φ : Dt → Prop} (h1 : b.natAbs < 20000) (h : Φ (.int (Int.gcd a b))) : rDivisor [.int a, .int b] Φ := ⟨a, b, rfl, h1, h⟩
theorem abs_natAbs (a : Int) : (if a < 0 then -a else a) = (a.natAbs : Int) := by split <;> omega
theorem w_law_divisor {K : PySem.W.Frag} : WpD (t_law_divisor K) 5 rDivisor := by
  rintro B Q args Φ ⟨a, b, rfl, h1, hΦ⟩ hr
  show Wp B (t_law_divisor K) [.dat (.int a), .dat (.int b), .no, .no, .no] (Top Q)
  unfold t_law_divisor
  walk_at "w"
  rw [abs_natAbs, abs_natAbs]
  refine wp_forR1 ?_
  walk_at "w"
  refine ⟨fun i e => ∃ (l r : Nat) (x : Sl), e = [.dat (.int a), .dat (.int b), .dat (.int l), .dat (.int r), x] ∧ Nat.gcd l r = Int.gcd a b ∧ (i + r ≤ b.natAbs), ?_, ?_, ?_⟩
  · exact ⟨a.natAbs, b.natAbs, _, rfl, rfl, by omega⟩
  · rintro i d e hi rfl ⟨l, r, x, rfl, hg, hb⟩
    walk_at "w"
    · intro hz
      walk_at "w"
      have : r = 0 := by omega
      subst this
      rw [Nat.gcd_zero_right] at hg
      rw [hg]
      exact hΦ
    · intro hz
      walk_at "w"
      refine nx_lo ⟨r, l % r, _, rfl, ?_, ?_⟩
      · rw [← hg, Nat.gcd_comm l r, Nat.gcd_rec r l, Nat.gcd_comm]
      · have : l % r < r := Nat.mod_lt _ (by omega)
        omega
  · rintro e ⟨l, r, x, rfl, hg, hb⟩
    exfalso
    have : Int.toNat 20000 = 20000 := rfl
    omega

/-! ### _law_take -/
def t_law_take (K : PySem.W.Frag) : TS :=
  (tSeq (tIfS (tTest (tOp rEq (tCB (rLenL K) (tCons (tVar 0) tNil)) (tC (.int 0)))) (tRet (tC (.int 0))) tNext)
  (tRet (tOp (rI (fun _ j => 0 < j) fun i j => .int (i % j)) (tCB rInt1 (tCons (tBM0 K "list" rPop (tVar 0)) tNil)) (tVar 1))))
theorem w_law_take {K : PySem.W.Frag} : ∀ (H : Hp) (Q : VK) (d : Addr) (ns : List Int) (n : Int), H d = some (.lst (ns.map V.int)) → ns.length ≤ 100000 → (∀ k ∈ ns, 0 ≤ k) → 0 < n → (∀ (r : Int) (ms : List Int), 0 ≤ r → r < n → ms.length ≤ 100000 → (∀ k ∈ ms, 0 ≤ k) → Q (.int r) (upd H d (.lst (ms.map V.int)))) →
      t_law_take K (Top Q) (L2.start ["deck", "many"] [.ref d, .int n]) H := by
  intro H Q d ns n h1 h2 h3 h4 hq
  refine ⟨.ref d, rfl, d, _, rfl, .inl (SqL.of h1), rfl, _, rfl, ?_⟩
  refine ite2 (fun he => ?_) (fun he => ?_)
  · have e0 : ((ns.map V.int).length : Int) = 0 := V.int.inj (of_decide_eq_true he)
    rw [List.length_map] at e0
    have := hq 0 ns (Int.le_refl 0) h4 h2 h3
    have eH : upd H d (.lst (ns.map V.int)) = H := by
      funext b
      by_cases e : b = d
      · rw [e, upd_same, h1]
      · rw [upd_ne e]
    rw [eH] at this
    exact this
  · have hne : ns ≠ [] := fun z => by
      subst z
      exact he (decide_eq_true rfl)
    have hsp : ns.dropLast ++ [ns.getLast hne] = ns := List.dropLast_concat_getLast hne
    have hlast : (ns.map V.int)[(ns.map V.int).length - 1]? = some (.int (ns.getLast hne)) := by
      rw [List.length_map, List.getElem?_map, ← List.getLast?_eq_getElem?, List.getLast?_eq_some_getLast hne]
      rfl
    have h0 : 0 ≤ ns.getLast hne := h3 _ (List.getLast_mem hne)
    refine ⟨.ref d, rfl, .inl ⟨rfl, _, SqL.of h1⟩, d, _, _, rfl, rfl, h1, hlast, .inl ⟨_, rfl, .int n, rfl, _, _, rfl, rfl, h4, ?_⟩⟩
    rw [← List.map_dropLast]
    exact hq _ ns.dropLast (Int.emod_nonneg _ (by omega)) (Int.emod_lt_of_pos _ h4) (by rw [List.length_dropLast]; omega) (fun k hk => h3 k (List.dropLast_subset _ hk))

/-! ### _law_deck -/
def t_law_deck (K : PySem.W.Frag) : TS :=
  (tSeq (tAsg (tLst tNil) (gName 3))
  (tSeq (tAsg (tOp (rI0 fun i j => .int (i + j)) (tC (.int 19)) (tCB (rLenL K) (tCons (tVar 0) tNil))) (gName 4))
  (tSeq (tFor (iRng1 (tCons (tVar 1) tNil)) (gName 5) (tSeq (tAsg (tC (.int 0)) (gName 6))
  (tSeq (tIfS (tTest (tOp (rI0 fun i j => .bl (decide (i < j))) (tVar 5) (tCB (rLenL K) (tCons (tVar 0) tNil)))) (tAsg (tOp (rIxL K) (tVar 0) (tVar 5)) (gName 6)) tNext)
  (tSeq (tAsg (tCB rAbs (tCons (tVar 6) tNil)) (gName 7))
  (tIfS (tTest (tOp (rI0 fun i j => .bl (decide (j ≤ i))) (tVar 7) (tOp (rI CPow fun i j => .int (i ^ j.toNat)) (tC (.int 10)) (tC (.int 30))))) (tFor (iRng1 (tCons (tVar 2) tNil)) (gName 8) (tSeq (tDrop (tBM K "list" rAppend (tVar 3) (tCons (tOp (rI (fun _ j => 0 < j) fun i j => .int (i % j)) (tCB rInt1 (tCons (tVar 7) tNil)) (tC (.int 1000003))) tNil)))
  (tAsg (tOp (rI CDiv fun i j => .int (i / j)) (tVar 7) (tC (.int 1000003))) (gName 7)))) (tSeq (tAsg (tOp (rI (fun _ j => 0 < j) fun i j => .int (i % j)) (tCB rInt1 (tCons (tOp (rI0 fun i j => .int (i + j)) (tOp (rI0 fun i j => .int (i + j)) (tOp (rI0 fun i j => .int (i + j)) (tOp (rI CMul fun i j => .int (i * j)) (tVar 4) (tC (.int 48271))) (tOp (rI CMul fun i j => .int (i * j)) (tC (.int 5)) (tVar 7))) (tOp (rI CMul fun i j => .int (i * j)) (tC (.int 2)) (tCB rInt1 (tCons (tOp (rI0 fun i j => .bl (decide (i < j))) (tVar 6) (tC (.int 0))) tNil)))) (tVar 5)) tNil)) (tC (.int 2147483647))) (gName 4))
  (tFor (iRng1 (tCons (tVar 2) tNil)) (gName 8) (tSeq (tAsg (tOp (rI (fun _ j => 0 < j) fun i j => .int (i % j)) (tCB rInt1 (tCons (tOp (rI0 fun i j => .int (i + j)) (tOp (rI0 fun i j => .int (i + j)) (tOp (rI CMul fun i j => .int (i * j)) (tVar 4) (tC (.int 69621))) (tVar 8)) (tC (.int 3))) tNil)) (tC (.int 2147483629))) (gName 4))
  (tDrop (tBM K "list" rAppend (tVar 3) (tCons (tOp (rI (fun _ j => 0 < j) fun i j => .int (i % j)) (tCB rInt1 (tCons (tOp (rI CDiv fun i j => .int (i / j)) (tVar 4) (tC (.int 11))) tNil)) (tC (.int 1000003))) tNil)))))))))))
  (tSeq (tDrop (tBM0 K "list" rReverse (tVar 3)))
  (tRet (tVar 3))))))
theorem w_law_deck {K : PySem.W.Frag} : WpDeck K (t_law_deck K) 9 := by
  intro B Q a ns c e hS hl c0 c1 e0 e1 hq
  show Wp B (t_law_deck K) [.dat (.raw a), .dat (.int c), .dat (.int e), .no, .no, .no, .no, .no, .no] (Top Q)
  unfold t_law_deck
  walk_at "w"
  refine wp_forR1 ?_
  walk_at "w"
  refine ⟨fun i env' => ∃ (ms : List Int) (seed : Int) (x y z w : Sl), env' = [.dat (.raw a), .dat (.int c), .dat (.int e), .own (ms.map .int), .dat (.int seed), x, y, z, w] ∧ ms.length ≤ i * 100 ∧ (∀ k ∈ ms, 0 ≤ k) ∧ 0 ≤ seed ∧ seed < 2147483647, ?_, ?_, ?_⟩
  · exact ⟨[], _, _, _, _, _, rfl, by simp, by simp, by omega, by omega⟩
  · rintro i d env' hi rfl ⟨ms, seed, x, y, z, w, rfl, hm, hp, s0, s1⟩
    walk_at "w1"
    walk_at "w1"
    walk_at "w1"
    walk_at "w1"
    refine wp_seq ?_
    refine wp_rest (fun e' => ∃ cell : Int, e' = [.dat (.raw a), .dat (.int c), .dat (.int e), .own (ms.map .int), .dat (.int seed), .dat (.int i), .dat (.int cell), z, w]) ?_ (fun u hu => ?_)
    · rintro e' ⟨cell, rfl⟩
      walk_at "w"
      rw [abs_natAbs]
      refine ⟨fun hbig => ?_, fun hbig => ?_⟩
      · refine wp_forR1 ?_
        walk_at "w"
        refine ⟨fun j env' => ∃ (ms' : List Int) (rest : Int) (x : Sl), env' = [.dat (.raw a), .dat (.int c), .dat (.int e), .own (ms'.map .int), .dat (.int seed), .dat (.int i), .dat (.int cell), .dat (.int rest), x] ∧ ms'.length ≤ ms.length + j ∧ (∀ k ∈ ms', 0 ≤ k), ?_, ?_, ?_⟩
        · exact ⟨ms, _, _, rfl, by omega, hp⟩
        · rintro j d env' hj rfl ⟨ms', rest, x, rfl, hm', hp'⟩
          walk_at "w"
          refine nx_lo ⟨ms' ++ [rest % 1000003], _, _, by rw [List.map_append]; rfl, by rw [List.length_append, List.length_singleton]; omega, ?_⟩
          intro k hk
          rcases List.mem_append.mp hk with h | h
          · exact hp' k h
          · rw [List.mem_singleton.mp h]
            exact Int.emod_nonneg _ (by decide)
        · rintro env' ⟨ms', rest, x, rfl, hm', hp'⟩
          exact nx_lo ⟨ms', seed, _, _, _, _, rfl, by omega, hp', s0, s1⟩
      · walk_at "w"
        have q1 := Int.emod_nonneg (seed * 48271 + 5 * ↑cell.natAbs + 2 * (if decide (cell < 0) = true then 1 else 0) + ↑i) (show (2147483647 : Int) ≠ 0 by decide)
        have q2 := Int.emod_lt_of_pos (seed * 48271 + 5 * ↑cell.natAbs + 2 * (if decide (cell < 0) = true then 1 else 0) + ↑i) (show (0 : Int) < 2147483647 by decide)
        generalize (seed * 48271 + 5 * ↑cell.natAbs + 2 * (if decide (cell < 0) = true then 1 else 0) + ↑i) % 2147483647 = s2 at q1 q2 ⊢
        refine wp_forR1 ?_
        walk_at "w"
        refine ⟨fun j env' => ∃ (ms' : List Int) (s3 : Int) (x : Sl), env' = [.dat (.raw a), .dat (.int c), .dat (.int e), .own (ms'.map .int), .dat (.int s3), .dat (.int i), .dat (.int cell), .dat (.int cell.natAbs), x] ∧ ms'.length ≤ ms.length + j ∧ (∀ k ∈ ms', 0 ≤ k) ∧ 0 ≤ s3 ∧ s3 < 2147483647, ?_, ?_, ?_⟩
        · exact ⟨ms, s2, _, rfl, by omega, hp, q1, q2⟩
        · rintro j d env' hj rfl ⟨ms', s3, x, rfl, hm', hp', t0, t1⟩
          walk_at "w"
          have q3 := Int.emod_nonneg (s3 * 69621 + ↑j + 3) (show (2147483629 : Int) ≠ 0 by decide)
          have q4 := Int.emod_lt_of_pos (s3 * 69621 + ↑j + 3) (show (0 : Int) < 2147483629 by decide)
          generalize (s3 * 69621 + ↑j + 3) % 2147483629 = s4 at q3 q4 ⊢
          refine nx_lo ⟨ms' ++ [s4 / 11 % 1000003], s4, _, by rw [List.map_append]; rfl, by rw [List.length_append, List.length_singleton]; omega, ?_, q3, by omega⟩
          intro k hk
          rcases List.mem_append.mp hk with h | h
          · exact hp' k h
          · rw [List.mem_singleton.mp h]
            exact Int.emod_nonneg _ (by decide)
        · rintro env' ⟨ms', s3, x, rfl, hm', hp', t0, t1⟩
          exact nx_lo ⟨ms', s3, _, _, _, _, rfl, by omega, hp', t0, t1⟩
    · walk_at "w"
      refine ⟨fun h => ?_, fun h => ?_⟩
      · walk_at "w"
        have hi' : i < ns.length := by omega
        refine ⟨i, ns[i], rfl, List.getElem?_eq_getElem hi', ?_⟩
        walk_at "w"
        exact hu _ ⟨_, rfl⟩
      · walk_at "w"
        exact hu _ ⟨_, rfl⟩
  · rintro env' ⟨ms, seed, x, y, z, w, rfl, hm, hp, s0, s1⟩
    walk_at "w"
    rw [← List.map_reverse]
    intro F H σ E
    obtain ⟨p, vs, h1, h2, h3, h4, h5⟩ := E.own (i := 3) rfl
    refine ⟨.ref p, h1, ?_⟩
    rw [RpAll.ints_iff.mp h5] at h4
    exact hq p H ms.reverse h2 E.hh h4 (by rw [List.length_reverse]; omega) (fun k hk => hp k (List.mem_reverse.mp hk))
end DL

set_option Elab.async false
set_option linter.all false
set_option maxRecDepth 100000
set_option maxHeartbeats 4000000
set_option autoImplicit false
namespace DL
open PySem PySem.Spec PyProof.Rows L2
local macro_rules | `(tactic| walk_at "lit") => `(tactic| fail "lit")
local macro_rules | `(tactic| walk_at "side") => `(tactic| first | omega | (simp only [CMul, CDiv, CPow, List.length_nil, List.length_cons, List.length_map, List.length_append, List.length_replicate]; omega) | decide | (simp; done) | (simp; omega))
local macro_rules | `(tactic| walk_at "es1") => `(tactic| first
  | ((with_reducible refine es_own (xs := ?dld) ?dlh ?_); (case dlh => exact rfl))
  | ((with_reducible refine es_el ?_); walk_at "el1")
  | with_reducible refine es_ev ?_)
local macro_rules | `(tactic| walk_at "el1") => `(tactic| first
  | with_reducible refine el_lst ?_
  | with_reducible refine el_cat ?_
  | with_reducible refine el_rep ?_
  | with_reducible refine el_listOf ?_
  | with_reducible refine el_revL ?_
  | with_reducible refine el_slL ?_
  | with_reducible refine el_sortedI ?_
  | with_reducible refine el_call ?_)
local macro_rules | `(tactic| walk_at "et1") => `(tactic| first
  | with_reducible refine et_ib ?_
  | with_reducible refine et_eq ?_
  | with_reducible refine et_ne ?_
  | with_reducible refine et_and ?_
  | with_reducible refine et_or ?_
  | with_reducible refine et_not ?_
  | with_reducible refine et_ltS ?_
  | with_reducible refine et_gtS ?_
  | with_reducible refine et_leS ?_
  | with_reducible refine et_geS ?_
  | with_reducible refine et_yes ?_
  | with_reducible refine et_test ?_
  | with_reducible refine et_B ?_)
local macro_rules | `(tactic| walk_at "ev1") => `(tactic| first
  | ((with_reducible refine ev_var (d := ?dld) ?dlh ?_); (case dlh => exact rfl))
  | with_reducible refine ev_int ?_
  | with_reducible refine ev_ii ?_
  | with_reducible refine ev_iiC ?_
  | ((with_reducible refine ev_own (xs := ?dld) ?dlh ?_); (case dlh => exact rfl))
  | ((with_reducible refine ev_str (x := ?dld) ?dlh ?_); (case dlh => walk_at "lit"))
  | with_reducible refine ev_int1 ?_
  | with_reducible refine ev_call ?_
  | with_reducible refine ev_lenS ?_
  | ((with_reducible refine ev_lenRaw (a := ?dla) (ns := ?dln) ?dlh ?dls ?_); (case dlh => exact rfl); (case dls => assumption))
  | with_reducible refine ev_lenL ?_
  | with_reducible refine ev_ixS ?_
  | ((with_reducible refine ev_ixRaw (a := ?dla) (ns := ?dln) ?dlh ?dls ?_); (case dlh => exact rfl); (case dls => assumption))
  | with_reducible refine ev_ixL ?_
  | with_reducible refine ev_ixT ?_
  | with_reducible refine ev_slS ?_
  | with_reducible refine ev_addS ?_
  | with_reducible refine ev_mulS ?_
  | with_reducible refine ev_revS ?_
  | with_reducible refine ev_bl ?_
  | with_reducible refine ev_non ?_
  | with_reducible refine ev_ib ?_
  | with_reducible refine ev_eq ?_
  | with_reducible refine ev_ne ?_
  | with_reducible refine ev_neg ?_
  | with_reducible refine ev_tup ?_
  | with_reducible refine ev_abs ?_
  | with_reducible refine ev_max2 ?_
  | with_reducible refine ev_min2 ?_
  | with_reducible refine ev_sum ?_
  | with_reducible refine ev_all ?_
  | with_reducible refine ev_any ?_
  | with_reducible refine ev_if ?_
  | with_reducible refine ev_notV ?_
  | with_reducible refine ev_andV ?_
  | with_reducible refine ev_orV ?_
  | with_reducible refine ev_isNn ?_
  | with_reducible refine ev_notNn ?_
  | with_reducible refine ev_isBl ?_
  | with_reducible refine ev_notBl ?_
  | with_reducible refine ev_isV ?_
  | with_reducible refine ev_isiT ?_
  | with_reducible refine ev_isi ?_
  | with_reducible refine ev_chainS ?_
  | with_reducible refine ev_chainI ?_
  | with_reducible refine ev_ltS ?_
  | with_reducible refine ev_leS ?_
  | with_reducible refine ev_in ?_
  | with_reducible refine ev_join ?_
  | with_reducible refine ev_maxL ?_
  | with_reducible refine ev_minL ?_
  | with_reducible refine ev_eqD ?_
  | with_reducible refine ev_neD ?_
  | ((with_reducible refine ev_el ?_); walk_at "el1"))
local macro_rules | `(tactic| walk_at "wp1") => `(tactic| first
  | with_reducible refine wp_seq ?_
  | with_reducible refine nx_sq ?_
  | ((with_reducible refine wp_asgO ?_); first | with_reducible refine el_lst ?_ | with_reducible refine el_rep ?_)
  | with_reducible refine wp_asg ?_
  | with_reducible refine wp_if ?_
  | ((with_reducible refine wp_aug (a := ?dld) ?dlh ?_); (case dlh => exact rfl))
  | ((with_reducible refine wp_append (xs := ?dld) ?dlh ?_); (case dlh => exact rfl))
  | ((with_reducible refine wp_setL (xs := ?dld) ?dlh ?_); (case dlh => exact rfl))
  | ((with_reducible refine wp_reverse (xs := ?dld) ?dlh ?_); (case dlh => exact rfl))
  | with_reducible refine wp_par ?_
  | with_reducible refine wp_tup2 ?_
  | with_reducible refine wp_drop ?_
  | with_reducible refine wp_next ?_
  | with_reducible refine wp_break ?_
  | with_reducible refine wp_continue ?_
  | (refine wp_ret (Φ := ?dld) ?dlr ?_; (case dlr => assumption)))
local macro_rules | `(tactic| walk_at "lf1") => `(tactic| first
  | with_reducible refine eqT_int ?_ ?_
  | with_reducible refine eqT_str ?_ ?_
  | with_reducible refine eqT_bl ?_ ?_
  | with_reducible refine eqP_int ?_
  | with_reducible refine eqP_str ?_
  | with_reducible refine eqP_bl ?_
  | with_reducible refine neP_int ?_
  | with_reducible refine neP_str ?_
  | with_reducible refine neP_bl ?_
  | with_reducible refine lenP_l ?_
  | with_reducible refine lenP_t ?_
  | with_reducible refine ⟨_, _, rfl, rfl, ?_⟩
  | with_reducible refine ⟨_, rfl, ?_⟩
  | with_reducible refine ⟨_, _, rfl, ?_⟩
  | with_reducible refine Or.inl ⟨_, rfl, ?_⟩
  | with_reducible refine Or.inr ⟨_, rfl, ?_⟩
  | ((with_reducible refine And.intro ?dls ?_); (case dls => walk_at "side")))
local macro_rules | `(tactic| walk_at "w1") => `(tactic| first
  | ((with_reducible show Ev _ _ _ _ _); walk_at "ev1")
  | ((with_reducible show Ea _ _ _ _ _); first | with_reducible refine ea_cons ?_ | with_reducible refine ea_nil ?_)
  | ((with_reducible show Et _ _ _ _ _); walk_at "et1")
  | ((with_reducible show Es _ _ _ _); walk_at "es1")
  | ((with_reducible show Eo _ _ _ _); first | with_reducible refine eo_none ?_ | with_reducible refine eo_some ?_)
  | ((with_reducible show El _ _ _ _); walk_at "el1")
  | walk_at "wp1"
  | walk_at "lf1")
local macro_rules | `(tactic| walk_at "w") => `(tactic| repeat walk_at "w1")
/-! ### _law_plain, _law_same -/
theorem lit_None : ("None" : Str) = S [78, 111, 110, 101] := by decide +kernel
theorem lit_False : ("False" : Str) = S [70, 97, 108, 115, 101] := by decide +kernel
theorem lit_True : ("True" : Str) = S [84, 114, 117, 101] := by decide +kernel
local macro_rules | `(tactic| walk_at "lit") => `(tactic| first | with_reducible exact lit_e | with_reducible exact lit_None | with_reducible exact lit_False | with_reducible exact lit_True)
mutual
def plain : Dt → Dt
  | .non => .str [78, 111, 110, 101]
  | .bl false => .str [70, 97, 108, 115, 101]
  | .bl true => .str [84, 114, 117, 101]
  | .int i => .list [.bl false, .int i]
  | .str x => .list [.bl true, .str x]
  | .list xs => .list (.bl true :: plains xs)
  | .tup xs => .list (.bl false :: plains xs)
  | .deck => .deck
  | .raw a => .raw a
def plains : List Dt → List Dt
  | [] => []
  | x :: xs => plain x :: plains xs
end
mutual
def dep : Dt → Nat
  | .list xs => deps xs + 1
  | .tup xs => deps xs + 1
  | _ => 0
def deps : List Dt → Nat
  | [] => 0
  | x :: xs => max (dep x) (deps xs)
end
theorem plains_map : ∀ xs : List Dt, plains xs = xs.map plain
  | [] => by simp [plains]
  | x :: xs => by simp [plains, plains_map xs]
theorem dep_mem : ∀ {xs : List Dt} {x : Dt}, x ∈ xs → dep x ≤ deps xs
  | y :: ys, x, h => by
    unfold deps
    rcases List.mem_cons.mp h with rfl | h
    · exact Nat.le_max_left _ _
    · exact Nat.le_trans (dep_mem h) (Nat.le_max_right _ _)
theorem pureD_mem : ∀ {xs : List Dt} {x : Dt}, pureDs xs = true → x ∈ xs → pureD x = true
  | y :: ys, x, hp, h => by
    unfold pureDs at hp
    rw [Bool.and_eq_true] at hp
    rcases List.mem_cons.mp h with rfl | h
    · exact hp.1
    · exact pureD_mem hp.2 h
theorem lenD_mem : ∀ {xs : List Dt} {x : Dt}, lenDs xs = true → x ∈ xs → lenD x = true
  | y :: ys, x, hp, h => by
    unfold lenDs at hp
    rw [Bool.and_eq_true] at hp
    rcases List.mem_cons.mp h with rfl | h
    · exact hp.1
    · exact lenD_mem hp.2 h
theorem plainD_of {d : Dt} (h : pureD d = true) : plainD d := by
  cases d <;> first | trivial | (unfold pureD at h; cases h)
theorem kb1 : kitB "list" "tuple" = some false := by decide +kernel
theorem kb2 : kitB "list" "list" = some true := by decide +kernel
theorem kb3 : kitB "tuple" "tuple" = some true := by decide +kernel
theorem kb4 : kitB "tuple" "list" = some false := by decide +kernel
theorem kb5 : kitB "NoneType" "tuple" = some false := by decide +kernel
theorem kb6 : kitB "NoneType" "list" = some false := by decide +kernel
theorem kb7 : kitB "bool" "tuple" = some false := by decide +kernel
theorem kb8 : kitB "bool" "list" = some false := by decide +kernel
theorem kb9 : kitB "int" "tuple" = some false := by decide +kernel
theorem kb10 : kitB "int" "list" = some false := by decide +kernel
theorem kb11 : kitB "str" "tuple" = some false := by decide +kernel
theorem kb12 : kitB "str" "list" = some false := by decide +kernel
theorem kb13 : kitB "NoneType" "dict" = some false := by decide +kernel
theorem kb14 : kitB "bool" "dict" = some false := by decide +kernel
theorem kb15 : kitB "int" "dict" = some false := by decide +kernel
theorem kb16 : kitB "str" "dict" = some false := by decide +kernel
theorem kb17 : kitB "bool" "bool" = some true := by decide +kernel
theorem kb18 : kitB "int" "bool" = some false := by decide +kernel
theorem kb19 : kitB "str" "bool" = some false := by decide +kernel
theorem kb20 : kitB "int" "int" = some true := by decide +kernel
theorem kb21 : kitB "str" "int" = some false := by decide +kernel
theorem kb22 : kitB "int" "str" = some false := by decide +kernel
theorem kb23 : kitB "str" "str" = some true := by decide +kernel
theorem kb24 : kitB "bool" "int" = some true := by decide +kernel
def rPlain (n : Nat) : Rd1 := fun args Φ => ∃ d, args = [d] ∧ pureD d = true ∧ lenD d = true ∧ dep d < n ∧ Φ (plain d)
def t_law_plain (K : PySem.W.Frag) (n : Nat) : TS :=
  (tSeq (tIfS (tB (tCB (rIsiT K) (tCons (tVar 0) (tCons (tTup (tCons (tC (.ty "tuple")) (tCons (tC (.ty "list")) tNil))) tNil)))) (tRet (tOp rCat (tLst (tCons (tCB (rIsi K) (tCons (tVar 0) (tCons (tC (.ty "list")) tNil))) tNil)) (tLc (iOr (iList K (tVar 0)) (iTup K (tVar 0))) (gName 1) tYes (tCall (spD 1 (rPlain n)) [] E0 (tCons (tVar 1) tNil)) [1]))) tNext)
  (tSeq (tIfS (tB (tCB (rIsi K) (tCons (tVar 0) (tCons (tC (.ty "dict")) tNil)))) tNever tNext)
  (tSeq (tIfS (tOr (tTest (tOp rIsNn (tVar 0) (tC .non))) (tB (tCB (rIsi K) (tCons (tVar 0) (tCons (tC (.ty "bool")) tNil))))) (tRet (tOp (rIxL K) (tLst (tCons (tC (.str "None")) (tCons (tC (.str "False")) (tCons (tC (.str "True")) tNil)))) (tOp (rI0 fun i j => .int (i + j)) (tCB rInt1 (tCons (tOp rNotNn (tVar 0) (tC .non)) tNil)) (tCB rInt1 (tCons (tOp rIsV (tVar 0) (tC (.bl true))) tNil))))) tNext)
  (tSeq (tIfS (tB (tCB (rIsiT K) (tCons (tVar 0) (tCons (tTup (tCons (tC (.ty "int")) (tCons (tC (.ty "str")) tNil))) tNil)))) (tRet (tLst (tCons (tCB (rIsi K) (tCons (tVar 0) (tCons (tC (.ty "str")) tNil))) (tCons (tVar 0) tNil)))) tNext)
  tNever))))
local macro_rules | `(tactic| walk_at "kb") => `(tactic| first | exact kb1 | exact kb2 | exact kb3 | exact kb4 | exact kb5 | exact kb6 | exact kb7 | exact kb8 | exact kb9 | exact kb10 | exact kb11 | exact kb12 | exact kb13 | exact kb14 | exact kb15 | exact kb16 | exact kb17 | exact kb18 | exact kb19 | exact kb20 | exact kb21 | exact kb22 | exact kb23 | exact kb24)
theorem w_law_plain {K : PySem.W.Frag} (n : Nat) : WpD (t_law_plain K n) 3 (rPlain (n + 1)) := by
  rintro B Q args Φ ⟨d, rfl, hp, hl, hd, hΦ⟩ hr
  show Wp B (t_law_plain K n) [.dat d, .no, .no] (Top Q)
  unfold t_law_plain
  have hpl := plainD_of hp
  cases d with
  | deck => exact hpl.elim
  | raw a => exact hpl.elim
  | list xs =>
    unfold pureD at hp
    unfold lenD at hl
    rw [Bool.and_eq_true, decide_eq_true_eq] at hl
    have hd' : deps xs + 1 < n + 1 := by unfold dep at hd; exact hd
    walk_at "w"
    refine isiT_i trivial kb1 kb2 ?_
    walk_at "w"
    refine ⟨fun _ => ?_, fun h => by cases h⟩
    refine wp_ret hr ?_
    walk_at "w"
    refine isi_i trivial kb2 ?_
    walk_at "w"
    refine ev_el (el_or1 (el_lcL (fun ys h => by cases h) ?_))
    walk_at "w"
    refine ct_map (f := plain) (by omega) (fun i d hi => ?_) ?_
    · walk_at "w"
      have hm : d ∈ xs := List.mem_of_getElem? hi
      exact ⟨d, rfl, pureD_mem hp hm, lenD_mem hl.2 hm, by have := dep_mem hm; omega, rfl⟩
    · walk_at "w"
      have : plain (.list xs) = .list ([.bl true] ++ xs.map plain) := by rw [← plains_map]; simp [plain]
      rw [← this]
      exact hΦ
  | tup xs =>
    unfold pureD at hp
    unfold lenD at hl
    rw [Bool.and_eq_true, decide_eq_true_eq] at hl
    have hd' : deps xs + 1 < n + 1 := by unfold dep at hd; exact hd
    walk_at "w"
    refine isiT_i trivial kb3 kb4 ?_
    walk_at "w"
    refine ⟨fun _ => ?_, fun h => by cases h⟩
    refine wp_ret hr ?_
    walk_at "w"
    refine isi_i trivial kb4 ?_
    walk_at "w"
    refine ev_el (el_or2 (el_lcT (fun ys h => by cases h) ?_))
    walk_at "w"
    refine ct_map (f := plain) (by omega) (fun i d hi => ?_) ?_
    · walk_at "w"
      have hm : d ∈ xs := List.mem_of_getElem? hi
      exact ⟨d, rfl, pureD_mem hp hm, lenD_mem hl.2 hm, by have := dep_mem hm; omega, rfl⟩
    · walk_at "w"
      have : plain (.tup xs) = .list ([.bl false] ++ xs.map plain) := by rw [← plains_map]; simp [plain]
      rw [← this]
      exact hΦ
  | non =>
    walk_at "w"
    refine isiT_i trivial kb5 kb6 ?_
    walk_at "w"
    intro _
    walk_at "w"
    refine isi_i trivial kb13 ?_
    walk_at "w"
    intro _
    walk_at "w"
    refine ⟨fun _ => ?_, fun h => by cases h⟩
    refine wp_ret hr ?_
    walk_at "w"
    refine Or.inl ⟨rfl, ?_⟩
    walk_at "w"
    exact hΦ
  | bl b =>
    walk_at "w"
    refine isiT_i trivial kb7 kb8 ?_
    walk_at "w"
    intro _
    walk_at "w"
    refine isi_i trivial kb14 ?_
    walk_at "w"
    intro _
    walk_at "w"
    refine ⟨fun h => (by cases h), fun _ => ?_⟩
    walk_at "w"
    refine isi_i trivial kb17 ?_
    walk_at "w"
    refine ⟨fun _ => ?_, fun h => (by cases h)⟩
    refine wp_ret hr ?_
    walk_at "w"
    cases b with
    | true => exact ⟨_, _, rfl, rfl, hΦ⟩
    | false => exact ⟨_, _, rfl, rfl, hΦ⟩
  | int i =>
    walk_at "w"
    refine isiT_i trivial kb9 kb10 ?_
    walk_at "w"
    intro _
    walk_at "w"
    refine isi_i trivial kb15 ?_
    walk_at "w"
    intro _
    walk_at "w"
    refine ⟨fun h => (by cases h), fun _ => ?_⟩
    walk_at "w"
    refine isi_i trivial kb18 ?_
    walk_at "w"
    intro _
    walk_at "w"
    refine isiT_i trivial kb20 kb22 ?_
    walk_at "w"
    refine ⟨fun _ => ?_, fun h => (by cases h)⟩
    refine wp_ret hr ?_
    walk_at "w"
    refine isi_i trivial kb22 ?_
    walk_at "w"
    exact hΦ
  | str x =>
    walk_at "w"
    refine isiT_i trivial kb11 kb12 ?_
    walk_at "w"
    intro _
    walk_at "w"
    refine isi_i trivial kb16 ?_
    walk_at "w"
    intro _
    walk_at "w"
    refine ⟨fun h => (by cases h), fun _ => ?_⟩
    walk_at "w"
    refine isi_i trivial kb19 ?_
    walk_at "w"
    intro _
    walk_at "w"
    refine isiT_i trivial kb21 kb23 ?_
    walk_at "w"
    refine ⟨fun _ => ?_, fun h => (by cases h)⟩
    refine wp_ret hr ?_
    walk_at "w"
    refine isi_i trivial kb23 ?_
    walk_at "w"
    exact hΦ
/-! == of what is the same -/
mutual
theorem lay_of : ∀ d : Dt, pureD d = true → (toPy d).canLay0 = true
  | .non, _ => by unfold toPy; rfl
  | .bl _, _ => by unfold toPy; rfl
  | .int _, _ => by unfold toPy; rfl
  | .str x, h => by
    unfold toPy
    unfold pureD at h
    show PyData.strOk (S x) = true
    unfold PyData.strOk
    show x.toArray.all _ = true
    simpa using h
  | .list xs, h => by
    unfold toPy
    unfold pureD at h
    show PyData.canLayAll0 (toPys xs) = true
    exact lays_of xs h
  | .tup xs, h => by
    unfold toPy
    unfold pureD at h
    show PyData.canLayAll0 (toPys xs) = true
    exact lays_of xs h
  | .deck, h => by unfold pureD at h; cases h
  | .raw _, h => by unfold pureD at h; cases h
theorem lays_of : ∀ ds : List Dt, pureDs ds = true → PyData.canLayAll0 (toPys ds) = true
  | [], _ => by unfold toPys; rfl
  | x :: xs, h => by
    unfold toPys
    unfold pureDs at h
    rw [Bool.and_eq_true] at h
    show (PyData.canLay0 (toPy x) && PyData.canLayAll0 (toPys xs)) = true
    rw [lay_of x h.1, lays_of xs h.2]; rfl
end
mutual
theorem depth_of : ∀ d : Dt, (toPy d).depth = dep d
  | .non => by unfold toPy dep; rfl
  | .bl _ => by unfold toPy dep; rfl
  | .int _ => by unfold toPy dep; rfl
  | .str x => by unfold toPy dep; rfl
  | .list xs => by
    unfold toPy dep
    show PyData.depthAll (toPys xs) + 1 = _
    rw [depths_of xs]
  | .tup xs => by
    unfold toPy dep
    show PyData.depthAll (toPys xs) + 1 = _
    rw [depths_of xs]
  | .deck => by unfold toPy dep; rfl
  | .raw _ => by unfold toPy dep; rfl
theorem depths_of : ∀ ds : List Dt, PyData.depthAll (toPys ds) = deps ds
  | [] => by unfold toPys deps; rfl
  | x :: xs => by
    unfold toPys deps
    show max (PyData.depth (toPy x)) (PyData.depthAll (toPys xs)) = _
    rw [depth_of x, depths_of xs]
end
mutual
theorem plain_pure : ∀ d : Dt, pureD d = true → pureD (plain d) = true ∧ dep (plain d) ≤ dep d + 1
  | .non, _ => by unfold plain; exact ⟨by decide, by decide⟩
  | .bl true, _ => by unfold plain; exact ⟨by decide, by decide⟩
  | .bl false, _ => by unfold plain; exact ⟨by decide, by decide⟩
  | .int _, _ => by unfold plain; exact ⟨by simp [pureD, pureDs], by simp [dep, deps]⟩
  | .str x, h => by unfold plain; exact ⟨by simp only [pureD, pureDs] at h ⊢; simp [h], by simp [dep, deps]⟩
  | .list xs, h => by
    unfold pureD at h
    obtain ⟨h1, h2⟩ := plains_pure xs h
    unfold plain
    refine ⟨?_, ?_⟩
    · simp only [pureD, pureDs, h1, Bool.and_self]
    · simp only [dep, deps]
      omega
  | .tup xs, h => by
    unfold pureD at h
    obtain ⟨h1, h2⟩ := plains_pure xs h
    unfold plain
    refine ⟨?_, ?_⟩
    · simp only [pureD, pureDs, h1, Bool.and_self]
    · simp only [dep, deps]
      omega
  | .deck, h => by unfold pureD at h; cases h
  | .raw _, h => by unfold pureD at h; cases h
theorem plains_pure : ∀ ds : List Dt, pureDs ds = true → pureDs (plains ds) = true ∧ deps (plains ds) ≤ deps ds + 1
  | [], _ => by unfold plains; exact ⟨rfl, by simp [deps]⟩
  | x :: xs, h => by
    unfold pureDs at h
    rw [Bool.and_eq_true] at h
    obtain ⟨h1, h2⟩ := plain_pure x h.1
    obtain ⟨h3, h4⟩ := plains_pure xs h.2
    unfold plains
    refine ⟨by unfold pureDs; rw [h1, h3]; rfl, ?_⟩
    unfold deps
    omega
end
def t_law_same (K : PySem.W.Frag) : TS :=
  (tRet (tOp (rEqD K) (tCall (spD 1 (rPlain 4)) [] E0 (tCons (tVar 0) tNil)) (tCall (spD 1 (rPlain 4)) [] E0 (tCons (tVar 1) tNil))))
/-- of what is the same it says so -/
def rSame : Rd1 := fun args Φ => ∃ d, args = [d, d] ∧ pureD d = true ∧ lenD d = true ∧ dep d < 4 ∧ Φ (.bl true)
theorem same_i {a b : Dt} {Φ : Dt → Prop} (e : a = b) (h1 : pureD b = true) (h2 : lenD b = true) (h3 : dep b < 4) (h : Φ (.bl true)) : rSame [a, b] Φ := ⟨b, by rw [e], h1, h2, h3, h⟩
theorem w_law_same {K : PySem.W.Frag} : WpD (t_law_same K) 2 rSame := by
  rintro B Q args Φ ⟨d, rfl, hp, hl, hd, hΦ⟩ hr
  show Wp B (t_law_same K) [.dat d, .dat d] (Top Q)
  unfold t_law_same
  walk_at "w"
  refine ⟨d, rfl, hp, hl, hd, ?_⟩
  walk_at "w"
  refine ⟨d, rfl, hp, hl, hd, ?_⟩
  walk_at "w"
  obtain ⟨h1, h2⟩ := plain_pure d hp
  have h3 := lay_of _ h1
  have h4 : SeqAt.shaped (toPy (plain d)) = true := by
    unfold SeqAt.shaped
    rw [h3, depth_of, decide_eq_true (by omega)]; rfl
  refine ⟨⟨h1, h1, h4, h4⟩, ?_⟩
  rw [PySem.SeqAt.eqv_refl _ h3]
  exact hΦ
theorem pure_ints (ns : List Int) : pureDs (ns.map .int) = true := by
  induction ns with
  | nil => rfl
  | cons n ns ih => simp only [List.map_cons, pureDs, pureD, ih, Bool.and_self]
theorem lenD_ints (ns : List Int) : lenDs (ns.map .int) = true := by
  induction ns with
  | nil => rfl
  | cons n ns ih => simp only [List.map_cons, lenDs, lenD, ih, Bool.and_self]
theorem deps_ints (ns : List Int) : deps (ns.map .int) = 0 := by
  induction ns with
  | nil => rfl
  | cons n ns ih => simp only [List.map_cons, deps, dep, ih]; rfl
theorem same_ints {a : Dt} {ns : List Int} {Φ : Dt → Prop} (e : a = .list (ns.map .int)) (hl : ns.length ≤ 100000) (h : Φ (.bl true)) : rSame [a, .list (ns.map .int)] Φ :=
  same_i e (by unfold pureD; exact pure_ints ns) (by unfold lenD; rw [lenD_ints, decide_eq_true (by rw [List.length_map]; exact hl)]; rfl) (by unfold dep; rw [deps_ints]; decide) h
theorem same_int {a : Dt} {n : Int} {Φ : Dt → Prop} (e : a = .int n) (h : Φ (.bl true)) : rSame [a, .int n] Φ := same_i e rfl rfl (by unfold dep; decide) h
theorem same_bl {a : Dt} {n : Bool} {Φ : Dt → Prop} (e : a = .bl n) (h : Φ (.bl true)) : rSame [a, .bl n] Φ := same_i e rfl rfl (by unfold dep; decide) h
theorem same_str {a : Dt} {x : List Nat} {Φ : Dt → Prop} (e : a = .str x) (hx : ∀ c ∈ x, c < 1114112) (h : Φ (.bl true)) : rSame [a, .str x] Φ := same_i e (by unfold pureD; simpa using hx) rfl (by unfold dep; decide) h
theorem rPlain_void (vs : List V) (H : Hp) (Q : VK) (E : XK) : ¬ spD 1 (rPlain 0) vs H Q E := fun ⟨_, _, _, _, _, _, h, _⟩ => by
  obtain ⟨d, _, _, _, h, _⟩ := h
  exact Nat.not_lt_zero _ h
end DL

set_option Elab.async false
set_option linter.all false
set_option maxRecDepth 100000
set_option maxHeartbeats 4000000
set_option autoImplicit false
namespace DL
open PySem PySem.Spec PyProof.Rows L2
local macro_rules | `(tactic| walk_at "lit") => `(tactic| fail "lit")
local macro_rules | `(tactic| walk_at "side") => `(tactic| first | omega | (simp only [CMul, CDiv, CPow, List.length_nil, List.length_cons, List.length_map, List.length_append, List.length_replicate]; omega) | decide | (simp; done) | (simp; omega))
local macro_rules | `(tactic| walk_at "es1") => `(tactic| first
  | ((with_reducible refine es_own (xs := ?dld) ?dlh ?_); (case dlh => exact rfl))
  | ((with_reducible refine es_el ?_); walk_at "el1")
  | with_reducible refine es_ev ?_)
local macro_rules | `(tactic| walk_at "el1") => `(tactic| first
  | with_reducible refine el_lst ?_
  | with_reducible refine el_cat ?_
  | with_reducible refine el_rep ?_
  | with_reducible refine el_listOf ?_
  | with_reducible refine el_revL ?_
  | with_reducible refine el_slL ?_
  | with_reducible refine el_sortedI ?_
  | with_reducible refine el_sortedSetS ?_
  | with_reducible refine el_sortedSetT ?_
  | with_reducible refine el_call ?_)
local macro_rules | `(tactic| walk_at "et1") => `(tactic| first
  | with_reducible refine et_ib ?_
  | with_reducible refine et_eq ?_
  | with_reducible refine et_ne ?_
  | with_reducible refine et_and ?_
  | with_reducible refine et_or ?_
  | with_reducible refine et_not ?_
  | with_reducible refine et_ltS ?_
  | with_reducible refine et_gtS ?_
  | with_reducible refine et_leS ?_
  | with_reducible refine et_geS ?_
  | with_reducible refine et_yes ?_
  | with_reducible refine et_test ?_
  | with_reducible refine et_B ?_)
local macro_rules | `(tactic| walk_at "ev1") => `(tactic| first
  | ((with_reducible refine ev_var (d := ?dld) ?dlh ?_); (case dlh => exact rfl))
  | with_reducible refine ev_int ?_
  | with_reducible refine ev_ii ?_
  | with_reducible refine ev_iiC ?_
  | ((with_reducible refine ev_own (xs := ?dld) ?dlh ?_); (case dlh => exact rfl))
  | ((with_reducible refine ev_str (x := ?dld) ?dlh ?_); (case dlh => walk_at "lit"))
  | with_reducible refine ev_int1 ?_
  | with_reducible refine ev_call ?_
  | with_reducible refine ev_callN ?_
  | with_reducible refine ev_callS ?_
  | ((with_reducible refine ev_what (by assumption) (by exact rfl) ?_))
  | with_reducible refine ev_lenS ?_
  | ((with_reducible refine ev_lenRaw (a := ?dla) (ns := ?dln) ?dlh ?dls ?_); (case dlh => exact rfl); (case dls => assumption))
  | with_reducible refine ev_lenL ?_
  | with_reducible refine ev_ixS ?_
  | ((with_reducible refine ev_ixRaw (a := ?dla) (ns := ?dln) ?dlh ?dls ?_); (case dlh => exact rfl); (case dls => assumption))
  | with_reducible refine ev_ixL ?_
  | with_reducible refine ev_ixT ?_
  | with_reducible refine ev_slS ?_
  | with_reducible refine ev_addS ?_
  | with_reducible refine ev_mulS ?_
  | with_reducible refine ev_revS ?_
  | with_reducible refine ev_bl ?_
  | with_reducible refine ev_non ?_
  | with_reducible refine ev_ib ?_
  | with_reducible refine ev_eq ?_
  | with_reducible refine ev_ne ?_
  | with_reducible refine ev_neg ?_
  | with_reducible refine ev_tup ?_
  | with_reducible refine ev_abs ?_
  | with_reducible refine ev_max2 ?_
  | with_reducible refine ev_min2 ?_
  | with_reducible refine ev_sum ?_
  | with_reducible refine ev_all ?_
  | with_reducible refine ev_any ?_
  | with_reducible refine ev_if ?_
  | with_reducible refine ev_notV ?_
  | with_reducible refine ev_andV ?_
  | with_reducible refine ev_orV ?_
  | with_reducible refine ev_isNn ?_
  | with_reducible refine ev_notNn ?_
  | with_reducible refine ev_isBl ?_
  | with_reducible refine ev_notBl ?_
  | with_reducible refine ev_isV ?_
  | with_reducible refine ev_isiT ?_
  | with_reducible refine ev_isi ?_
  | with_reducible refine ev_chainS ?_
  | with_reducible refine ev_chainI ?_
  | with_reducible refine ev_ltS ?_
  | with_reducible refine ev_leS ?_
  | with_reducible refine ev_in ?_
  | with_reducible refine ev_join ?_
  | with_reducible refine ev_maxL ?_
  | with_reducible refine ev_minL ?_
  | with_reducible refine ev_eqD ?_
  | with_reducible refine ev_neD ?_
  | ((with_reducible refine ev_el ?_); walk_at "el1"))
local macro_rules | `(tactic| walk_at "wp1") => `(tactic| first
  | with_reducible refine wp_seq ?_
  | with_reducible refine nx_sq ?_
  | ((with_reducible refine wp_asgO ?_); first | with_reducible refine el_lst ?_ | with_reducible refine el_rep ?_)
  | with_reducible refine wp_asg ?_
  | with_reducible refine wp_if ?_
  | ((with_reducible refine wp_aug (a := ?dld) ?dlh ?_); (case dlh => exact rfl))
  | ((with_reducible refine wp_append (xs := ?dld) ?dlh ?_); (case dlh => exact rfl))
  | ((with_reducible refine wp_augL (xs := ?dld) ?dlh ?_); (case dlh => exact rfl))
  | ((with_reducible refine wp_setL (xs := ?dld) ?dlh ?_); (case dlh => exact rfl))
  | ((with_reducible refine wp_reverse (xs := ?dld) ?dlh ?_); (case dlh => exact rfl))
  | with_reducible refine wp_par ?_
  | with_reducible refine wp_try ?_
  | ((with_reducible refine wp_raise ?dlx ?_); (case dlx => assumption))
  | with_reducible refine wp_tup2 ?_
  | with_reducible refine wp_drop ?_
  | with_reducible refine wp_next ?_
  | with_reducible refine wp_break ?_
  | with_reducible refine wp_continue ?_
  | (refine wp_ret (Φ := ?dld) ?dlr ?_; (case dlr => assumption)))
local macro_rules | `(tactic| walk_at "lf1") => `(tactic| first
  | with_reducible refine eqT_int ?_ ?_
  | with_reducible refine eqT_str ?_ ?_
  | with_reducible refine eqT_bl ?_ ?_
  | with_reducible refine eqP_int ?_
  | with_reducible refine eqP_str ?_
  | with_reducible refine eqP_bl ?_
  | with_reducible refine neP_int ?_
  | with_reducible refine neP_str ?_
  | with_reducible refine neP_bl ?_
  | with_reducible refine lenP_l ?_
  | with_reducible refine lenP_t ?_
  | with_reducible refine ⟨_, _, rfl, rfl, ?_⟩
  | with_reducible refine ⟨_, rfl, ?_⟩
  | with_reducible refine ⟨_, _, rfl, ?_⟩
  | with_reducible refine Or.inl ⟨_, rfl, ?_⟩
  | with_reducible refine Or.inr ⟨_, rfl, ?_⟩
  | ((with_reducible refine And.intro ?dls ?_); (case dls => walk_at "side")))
local macro_rules | `(tactic| walk_at "w1") => `(tactic| first
  | ((with_reducible show Ev _ _ _ _ _); walk_at "ev1")
  | ((with_reducible show Ea _ _ _ _ _); first | with_reducible refine ea_cons ?_ | with_reducible refine ea_nil ?_)
  | ((with_reducible show Et _ _ _ _ _); walk_at "et1")
  | ((with_reducible show Es _ _ _ _); walk_at "es1")
  | ((with_reducible show Eo _ _ _ _); first | with_reducible refine eo_none ?_ | with_reducible refine eo_some ?_)
  | ((with_reducible show El _ _ _ _); walk_at "el1")
  | walk_at "wp1"
  | walk_at "lf1")
local macro_rules | `(tactic| walk_at "w") => `(tactic| repeat walk_at "w1")

theorem lit_e0 : ("" : Str) = S [] := by decide +kernel
theorem lit_a : ("a" : Str) = S [97] := by decide +kernel
theorem lit_z : ("z" : Str) = S [122] := by decide +kernel
theorem lit_ab : ("ab" : Str) = S [97, 98] := by decide +kernel
theorem lit_abz : ("abz" : Str) = S [97, 98, 122] := by decide +kernel
local macro_rules | `(tactic| walk_at "lit") => `(tactic| first | with_reducible exact lit_e0 | with_reducible exact lit_a | with_reducible exact lit_z | with_reducible exact lit_ab | with_reducible exact lit_abz)
def Lets (w : List Nat) : Prop := ∀ c ∈ w, 97 ≤ c ∧ c ≤ 122
def rIsWord : Rd1 := fun args Φ => ∃ w, args = [.str w] ∧ w.length ≤ 10000 ∧ Lets w ∧ Φ (.bl true)
def rCheckWord : Rd1 := fun args Φ => ∃ w, args = [.str w] ∧ w.length ≤ 10000 ∧ Lets w ∧ Φ .non
def t_is_word (K : PySem.W.Frag) : TS :=
  (tRet (tCB (rAll K) (tCons (tLc (iStr (tVar 0)) (gName 1) tYes (tChain rLeS rLeS (tC (.str "a")) (tVar 1) (tC (.str "z"))) [1]) tNil)))

def t_check_word (K : PySem.W.Frag) : TS :=
  (tIfS (tNot (tB (tCall (spD 1 rIsWord) [] E0 (tCons (tVar 0) tNil)))) tNever tNext)

theorem lt1 {a b : Nat} : ([a] : List Nat) < [b] ↔ a < b := by simp [List.cons_lt_cons_iff]
theorem isWord_i {w : List Nat} {Φ : Dt → Prop} (h1 : w.length ≤ 10000) (h2 : Lets w) (h : Φ (.bl true)) : rIsWord [.str w] Φ := ⟨w, rfl, h1, h2, h⟩
theorem checkWord_i {w : List Nat} {Φ : Dt → Prop} (h1 : w.length ≤ 10000) (h2 : Lets w) (h : Φ .non) : rCheckWord [.str w] Φ := ⟨w, rfl, h1, h2, h⟩
theorem w_is_word {K : PySem.W.Frag} : WpD (t_is_word K) 2 rIsWord := by
  rintro B Q args Φ ⟨w, rfl, hl, hw, hΦ⟩ hr
  show Wp B (t_is_word K) [.dat (.str w), .no] (Top Q)
  unfold t_is_word
  walk_at "w"
  refine ev_el (el_lcS (fun ys h => by cases h) ?_)
  walk_at "w"
  refine ⟨fun i acc => acc = ((List.replicate i true).map .bl), rfl, fun i c hc acc ha => ?_, fun acc ha => ?_⟩
  · subst ha
    have hcw := hw c (List.mem_of_getElem? hc)
    have hi : i < w.length := (List.getElem?_eq_some_iff.mp hc).1
    walk_at "w"
    refine ⟨fun h => ?_, fun h => ?_⟩
    · walk_at "w"
      have : ¬ ([122] : List Nat) < [c] := fun z => by have := lt1.mp z; omega
      show _ = _
      rw [decide_eq_false this, List.replicate_succ', List.map_append]
      rfl
    · have := lt1.mp h
      omega
  · subst ha
    refine ⟨_, rfl, ?_⟩
    have : (List.replicate w.length true).all id = true := by simp
    rw [this]
    exact hΦ
theorem w_check_word {K : PySem.W.Frag} : WpD (t_check_word K) 1 rCheckWord := by
  rintro B Q args Φ ⟨w, rfl, hl, hw, hΦ⟩ hr
  show Wp B (t_check_word K) [.dat (.str w)] (Top Q)
  unfold t_check_word
  walk_at "w"
  refine isWord_i hl hw ?_
  refine ⟨_, rfl, fun _ => ?_, fun h => by cases h⟩
  walk_at "w"
  exact nx_top hr hΦ
theorem inP_int {neg : Bool} {P : Dt → Prop} {i : Int} {ns : List Int} (h : P (.bl (neg ^^ decide (i ∈ ns)))) : InP neg P (.int i) (.list (ns.map .int)) := .inl ⟨i, ns, rfl, .inl rfl, h⟩
theorem notin_no {P : Dt → Prop} {i : Int} {ns : List Int} (h : i ∈ ns) (hp : P (.bl false)) : InP true P (.int i) (.list (ns.map .int)) := inP_int (by rw [decide_eq_true h]; exact hp)
theorem tB_no {P Q : Prop} (h : Q) : ∃ b, Dt.bl false = .bl b ∧ (b = true → P) ∧ (b = false → Q) := ⟨_, rfl, (fun h => by cases h), fun _ => h⟩
theorem tB_yes {P Q : Prop} (h : P) : ∃ b, Dt.bl true = .bl b ∧ (b = true → P) ∧ (b = false → Q) := ⟨_, rfl, fun _ => h, fun h => by cases h⟩
theorem lets_of {l w : List Nat} (hl : Lets l) (h : ∀ c ∈ w, c ∈ l) : Lets w := fun c hc => hl c (h c hc)
theorem lets_app {a b : List Nat} (ha : Lets a) (hb : Lets b) : Lets (a ++ b) := fun c hc => (List.mem_append.mp hc).elim (ha c) (hb c)
theorem lets_take {a : List Nat} {n : Nat} (ha : Lets a) : Lets (a.take n) := fun c hc => ha c (List.mem_of_mem_take hc)
theorem lets_drop {a : List Nat} {n : Nat} (ha : Lets a) : Lets (a.drop n) := fun c hc => ha c (List.mem_of_mem_drop hc)
theorem lets_rev {a : List Nat} (ha : Lets a) : Lets a.reverse := fun c hc => ha c (List.mem_reverse.mp hc)
theorem lets_one {l : List Nat} {c : Nat} {i : Nat} (hl : Lets l) (h : l[i]? = some c) : Lets [c] := fun d hd => by rw [List.mem_singleton.mp hd]; exact hl c (List.mem_of_getElem? h)
theorem lets_nil : Lets [] := fun c hc => by cases hc
theorem lets_rep {n a : Nat} (h : 97 ≤ a ∧ a ≤ 122) : Lets (List.replicate n a) := fun c hc => by rw [List.eq_of_mem_replicate hc]; exact h
/-- the law's own answer -/
theorem rt_law {B : Bs} {Q : VK} (hΦ : ∀ H', Q (.bl true) H') : Rt B Q (fun d => d = .bl true) := fun d v F H e _ _ _ _ r => by subst e; rw [Rp.bl_iff.mp r]; exact hΦ H
/-- one of three texts -/
theorem take3 {a b c : List Nat} {k : Int} {R : Dt → Prop} (k0 : 0 ≤ k) (k1 : k < 3) (h : ∀ l, l = a ∨ l = b ∨ l = c → R (.str l)) : ∃ (i : Int) (d : Dt), Dt.int k = .int i ∧ atI [Dt.str a, Dt.str b, Dt.str c] i = some d ∧ R d := by
  have : k.toNat = 0 ∨ k.toNat = 1 ∨ k.toNat = 2 := by omega
  rcases this with e | e | e
  · exact ⟨k, .str a, rfl, atI_nn k0 (by rw [e]; rfl), h a (.inl rfl)⟩
  · exact ⟨k, .str b, rfl, atI_nn k0 (by rw [e]; rfl), h b (.inr (.inl rfl))⟩
  · exact ⟨k, .str c, rfl, atI_nn k0 (by rw [e]; rfl), h c (.inr (.inr rfl))⟩
end DL

set_option autoImplicit false
set_option linter.all false
/-! borders and periods of words: the mathematics -/
namespace M00
/-- the beginning of w with i letters has the border k -/
def Bd (w : List Nat) (i k : Nat) : Prop := k < i ∧ i ≤ w.length ∧ ∀ j, j < k → w[j]? = w[i - k + j]?
instance (w : List Nat) (i k : Nat) : Decidable (Bd w i k) := by unfold Bd; exact inferInstance
theorem Bd.zero {w : List Nat} {i : Nat} (h : 0 < i) (hi : i ≤ w.length) : Bd w i 0 := ⟨h, hi, fun j hj => absurd hj (Nat.not_lt_zero j)⟩
theorem Bd.trans {w : List Nat} {i k l : Nat} (a : Bd w i k) (b : Bd w k l) : Bd w i l := by
  obtain ⟨a1, a2, a3⟩ := a
  obtain ⟨b1, b2, b3⟩ := b
  refine ⟨by omega, a2, fun j hj => ?_⟩
  rw [b3 j hj, a3 (k - l + j) (by omega)]
  congr 1
  omega
theorem Bd.cut {w : List Nat} {i k l : Nat} (a : Bd w i k) (b : Bd w i l) (h : l < k) : Bd w k l := by
  obtain ⟨a1, a2, a3⟩ := a
  obtain ⟨b1, b2, b3⟩ := b
  refine ⟨h, by omega, fun j hj => ?_⟩
  rw [b3 j hj, a3 (k - l + j) (by omega)]
  congr 1
  omega
theorem Bd.succ {w : List Nat} {i k : Nat} (a : Bd w i k) (hi : i + 1 ≤ w.length) (h : w[k]? = w[i]?) : Bd w (i + 1) (k + 1) := by
  obtain ⟨a1, a2, a3⟩ := a
  refine ⟨by omega, hi, fun j hj => ?_⟩
  by_cases e : j = k
  · subst e
    rw [h]
    congr 1
    omega
  · rw [a3 j (by omega)]
    congr 1
    omega
theorem Bd.pred {w : List Nat} {i k : Nat} (a : Bd w (i + 1) (k + 1)) : Bd w i k ∧ w[k]? = w[i]? := by
  obtain ⟨a1, a2, a3⟩ := a
  refine ⟨⟨by omega, by omega, fun j hj => ?_⟩, ?_⟩
  · rw [a3 j (by omega)]
    congr 1
    omega
  · rw [a3 k (by omega)]
    congr 1
    omega
theorem Bd.app {w v : List Nat} {i k : Nat} (hi : i ≤ w.length) : Bd (w ++ v) i k ↔ Bd w i k := by
  unfold Bd
  constructor
  · rintro ⟨h1, h2, h3⟩
    refine ⟨h1, hi, fun j hj => ?_⟩
    have := h3 j hj
    rwa [List.getElem?_append_left (by omega), List.getElem?_append_left (by omega)] at this
  · rintro ⟨h1, h2, h3⟩
    refine ⟨h1, by rw [List.length_append]; omega, fun j hj => ?_⟩
    rw [List.getElem?_append_left (by omega), List.getElem?_append_left (by omega)]
    exact h3 j hj
theorem Bd.take {w : List Nat} {i k m : Nat} (hm : m ≤ w.length) (hi : i ≤ m) : Bd (w.take m) i k ↔ Bd w i k := by
  have e : w.take m ++ w.drop m = w := List.take_append_drop m w
  have hl : (w.take m).length = m := by rw [List.length_take]; omega
  have := Bd.app (w := w.take m) (v := w.drop m) (i := i) (k := k) (by omega)
  rw [e] at this
  exact this.symm
/-- as words -/
theorem B_iff {w : List Nat} {k : Nat} (hk : k < w.length) : w.take k = w.drop (w.length - k) ↔ Bd w w.length k := by
  constructor
  · intro h
    refine ⟨hk, Nat.le_refl _, fun j hj => ?_⟩
    have h1 : (w.take k)[j]? = w[j]? := by rw [List.getElem?_take]; simp [hj]
    rw [← h1, h, List.getElem?_drop]
  · rintro ⟨_, _, h⟩
    apply List.ext_getElem?
    intro j
    by_cases hj : j < k
    · rw [List.getElem?_take, List.getElem?_drop]
      simp only [hj, if_true]
      exact h j hj
    · rw [List.getElem?_eq_none (by rw [List.length_take]; omega), List.getElem?_eq_none (by rw [List.length_drop]; omega)]
/-- t is the longest one -/
def Lb (w : List Nat) (i t : Nat) : Prop := Bd w i t ∧ ∀ k, Bd w i k → k ≤ t
def bs (w : List Nat) (i : Nat) : List Nat := (List.range i).filter fun k => decide (Bd w i k)
theorem mem_bs {w : List Nat} {i k : Nat} : k ∈ bs w i ↔ Bd w i k := by
  unfold bs
  rw [List.mem_filter, List.mem_range, decide_eq_true_eq]
  exact ⟨fun h => h.2, fun h => ⟨h.1, h⟩⟩
theorem bs_zero (w : List Nat) : bs w 0 = [] := rfl
/-- the borders are those of the longest one, and it -/
theorem bs_lb {w : List Nat} {i t : Nat} (h : Lb w i t) : bs w i = bs w t ++ [t] := by
  obtain ⟨h1, h2⟩ := h
  have e : i = t + 1 + (i - t - 1) := by have := h1.1; omega
  have hr : List.range i = List.range t ++ [t] ++ (List.range (i - t - 1)).map (t + 1 + ·) := by
    conv => lhs; rw [e, List.range_add, List.range_succ]
  unfold bs
  rw [hr, List.filter_append, List.filter_append]
  have p1 : (List.range t).filter (fun k => decide (Bd w i k)) = (List.range t).filter (fun k => decide (Bd w t k)) := by
    apply List.filter_congr
    intro k hk
    have hk' := List.mem_range.mp hk
    rw [decide_eq_decide]
    exact ⟨fun hb => h1.cut hb hk', fun hb => h1.trans hb⟩
  have p2 : [t].filter (fun k => decide (Bd w i k)) = [t] := by simp [h1]
  have p3 : ((List.range (i - t - 1)).map (t + 1 + ·)).filter (fun k => decide (Bd w i k)) = [] := by
    rw [List.filter_eq_nil_iff]
    intro k hk
    obtain ⟨m, _, rfl⟩ := List.mem_map.mp hk
    rw [decide_eq_true_eq]
    intro hb
    have := h2 _ hb
    omega
  rw [p1, p2, p3, List.append_nil]
theorem bs_sorted (w : List Nat) (i : Nat) : (bs w i).Pairwise (· < ·) := List.Pairwise.filter _ List.pairwise_lt_range
theorem bs_take {w : List Nat} {t : Nat} (ht : t ≤ w.length) : bs (w.take t) t = bs w t := by
  unfold bs
  apply List.filter_congr
  intro k _
  rw [decide_eq_decide]
  exact Bd.take ht (Nat.le_refl _)
theorem bs_lt {w : List Nat} {i k : Nat} (h : k ∈ bs w i) : k < i := (mem_bs.mp h).1
theorem bs_last {w : List Nat} {i : Nat} (hi : 0 < i) (hw : i ≤ w.length) : ∃ t, Lb w i t ∧ bs w i = bs w t ++ [t] := by
  have hne : bs w i ≠ [] := fun h => by
    have : (0 : Nat) ∈ bs w i := mem_bs.mpr (Bd.zero hi hw)
    rw [h] at this
    cases this
  have hL : Lb w i ((bs w i).getLast hne) := by
    refine ⟨mem_bs.mp (List.getLast_mem hne), fun k hk => ?_⟩
    have hk := mem_bs.mpr hk
    have hs := bs_sorted w i
    rw [← List.dropLast_concat_getLast hne] at hk hs
    rcases List.mem_append.mp hk with h | h
    · exact Nat.le_of_lt ((List.pairwise_append.mp hs).2.2 k h _ (List.mem_singleton.mpr rfl))
    · rw [List.mem_singleton.mp h]
      exact Nat.le_refl _
  exact ⟨_, hL, bs_lb hL⟩
/-! periods -/
/-- p is a period of w -/
def Pd (w : List Nat) (p : Nat) : Prop := 1 ≤ p ∧ p ≤ w.length ∧ Bd w w.length (w.length - p)
theorem Pd_iff {w : List Nat} {p : Nat} : Pd w p ↔ 1 ≤ p ∧ p ≤ w.length ∧ ∀ j, j + p < w.length → w[j]? = w[j + p]? := by
  unfold Pd Bd
  constructor
  · rintro ⟨h1, h2, h3, h4, h5⟩
    refine ⟨h1, h2, fun j hj => ?_⟩
    rw [h5 j (by omega)]
    congr 1
    omega
  · rintro ⟨h1, h2, h3⟩
    refine ⟨h1, h2, by omega, Nat.le_refl _, fun j hj => ?_⟩
    rw [h3 j (by omega)]
    congr 1
    omega
theorem Pd.sub {w : List Nat} {p q : Nat} (a : Pd w p) (b : Pd w q) (h : q < p) (hs : p + q ≤ w.length) : Pd w (p - q) := by
  rw [Pd_iff] at a b ⊢
  obtain ⟨a1, a2, a3⟩ := a
  obtain ⟨b1, b2, b3⟩ := b
  refine ⟨by omega, by omega, fun j hj => ?_⟩
  by_cases c : j + p < w.length
  · rw [a3 j c, b3 (j + (p - q)) (by omega)]
    congr 1
    omega
  · -- back by q, then on by p
    have c1 : q ≤ j := by omega
    have e1 := b3 (j - q) (by omega)
    have e2 := a3 (j - q) (by omega)
    rw [show j - q + q = j by omega] at e1
    rw [← e1, e2]
    congr 1
    omega
theorem Pd.gcd {w : List Nat} : ∀ (n : Nat) {p q : Nat}, p + q ≤ n → Pd w p → Pd w q → p + q ≤ w.length → Pd w (Nat.gcd p q)
  | 0, p, q, hn, a, b, _ => by have := a.1; omega
  | n + 1, p, q, hn, a, b, h => by
    by_cases e : p = q
    · subst e
      rw [Nat.gcd_self]
      exact a
    · by_cases c : q < p
      · have s := a.sub b c h
        have := Pd.gcd n (p := p - q) (q := q) (by have := b.1; omega) s b (by omega)
        rwa [Nat.gcd_sub_self_left (Nat.le_of_lt c)] at this
      · have c' : p < q := by omega
        have s := b.sub a c' (by omega)
        have := Pd.gcd n (p := p) (q := q - p) (by have := a.1; omega) a s (by omega)
        rwa [Nat.gcd_sub_self_right (Nat.le_of_lt c')] at this

/-! as whole numbers -/
def nI (l : List Nat) : List Int := l.map fun n : Nat => (n : Int)
theorem nI_len (l : List Nat) : (nI l).length = l.length := List.length_map ..
theorem nI_app (a b : List Nat) : nI (a ++ b) = nI a ++ nI b := List.map_append ..
theorem mem_nI {l : List Nat} {z : Int} : z ∈ nI l ↔ ∃ n : Nat, n ∈ l ∧ z = n := by
  unfold nI
  rw [List.mem_map]
  exact ⟨fun ⟨n, h, e⟩ => ⟨n, h, e.symm⟩, fun ⟨n, h, e⟩ => ⟨n, h, e.symm⟩⟩
theorem bs_len (w : List Nat) (i : Nat) : (bs w i).length ≤ i := by
  have := List.length_filter_le (fun k => decide (Bd w i k)) (List.range i)
  rw [List.length_range] at this
  exact this
def pers (w : List Nat) : List Int := (nI (bs w w.length)).reverse.map fun k => (w.length : Int) - k
theorem pers_len (w : List Nat) : (pers w).length ≤ w.length := by
  unfold pers
  rw [List.length_map, List.length_reverse, nI_len]
  exact bs_len w _
theorem mem_pers {w : List Nat} {z : Int} : z ∈ pers w ↔ ∃ p : Nat, z = p ∧ Pd w p := by
  unfold pers
  rw [List.mem_map]
  constructor
  · rintro ⟨k, hk, rfl⟩
    obtain ⟨n, hn, rfl⟩ := mem_nI.mp (List.mem_reverse.mp hk)
    have hb := mem_bs.mp hn
    have h1 := hb.1
    refine ⟨w.length - n, by omega, by omega, by omega, ?_⟩
    rw [show w.length - (w.length - n) = n by omega]
    exact hb
  · rintro ⟨p, rfl, h1, h2, h3⟩
    exact ⟨((w.length - p : Nat) : Int), List.mem_reverse.mpr (mem_nI.mpr ⟨_, mem_bs.mpr h3, rfl⟩), by omega⟩
theorem pers_sorted (w : List Nat) : (pers w).Pairwise (· ≤ ·) := by
  unfold pers nI
  rw [List.pairwise_map, List.pairwise_reverse, List.pairwise_map]
  refine (bs_sorted w w.length).imp fun h => ?_
  omega
theorem pers_perm (w : List Nat) : (pers w).Perm ((nI (bs w w.length)).map fun k => (w.length : Int) - k) := by
  unfold pers
  exact (List.reverse_perm _).map _
theorem sorted_unique : ∀ {a b : List Int}, a.Perm b → a.Pairwise (· ≤ ·) → b.Pairwise (· ≤ ·) → a = b
  | [], b, p, _, _ => (List.nil_perm.mp p).symm
  | x :: a, [], p, _, _ => by have := p.length_eq; simp at this
  | x :: a, y :: b, p, ha, hb => by
    have hx : x ≤ y := by
      rcases List.mem_cons.mp (p.symm.subset List.mem_cons_self) with h | h
      · rw [h]; exact Int.le_refl _
      · exact (List.pairwise_cons.mp ha).1 y h
    have hy : y ≤ x := by
      rcases List.mem_cons.mp (p.subset List.mem_cons_self) with h | h
      · rw [h]; exact Int.le_refl _
      · exact (List.pairwise_cons.mp hb).1 x h
    have e : x = y := Int.le_antisymm hx hy
    subst e
    rw [sorted_unique ((List.perm_cons x).mp p) (List.pairwise_cons.mp ha).2 (List.pairwise_cons.mp hb).2]
theorem sorted_pers {w : List Nat} {ns : List Int} (p : ns.Perm ((nI (bs w w.length)).map fun k => (w.length : Int) - k)) (h : ns.Pairwise (· ≤ ·)) : ns = pers w :=
  sorted_unique (p.trans (pers_perm w).symm) h (pers_sorted w)
/-- the least -/
def LeastP (w : List Nat) (p : Nat) : Prop := Pd w p ∧ ∀ q, Pd w q → p ≤ q
theorem pers_head {w : List Nat} (hw : w ≠ []) : ∃ p : Nat, (pers w)[0]? = some (p : Int) ∧ LeastP w p := by
  have h0 : 0 < w.length := List.length_pos_iff.mpr hw
  have hm : (w.length : Int) ∈ pers w := mem_pers.mpr ⟨w.length, rfl, h0, Nat.le_refl _, by rw [Nat.sub_self]; exact Bd.zero h0 (Nat.le_refl _)⟩
  have hs := pers_sorted w
  have hmem := @mem_pers w
  generalize pers w = l at hm hs hmem ⊢
  cases l with
  | nil => cases hm
  | cons x l =>
    obtain ⟨p, rfl, hp⟩ := hmem.mp List.mem_cons_self
    refine ⟨p, rfl, hp, fun q hq => ?_⟩
    have := hmem.mpr ⟨q, rfl, hq⟩
    rcases List.mem_cons.mp this with h | h
    · omega
    · have := (List.pairwise_cons.mp hs).1 _ h
      omega
theorem Pd.twice {w : List Nat} (hw : w ≠ []) : Pd (w ++ w) w.length := by
  have h0 : 0 < w.length := List.length_pos_iff.mpr hw
  rw [Pd_iff]
  refine ⟨h0, by rw [List.length_append]; omega, fun j hj => ?_⟩
  rw [List.length_append] at hj
  rw [List.getElem?_append_left (by omega), List.getElem?_append_right (by omega)]
  congr 1
  omega
theorem twice_mem {w : List Nat} (hw : w ≠ []) : (w.length : Int) ∈ pers (w ++ w) := mem_pers.mpr ⟨_, rfl, Pd.twice hw⟩
theorem twice_bs {w : List Nat} (hw : w ≠ []) : (w.length : Int) ∈ nI (bs (w ++ w) (w ++ w).length) := by
  refine mem_nI.mpr ⟨_, mem_bs.mpr ?_, rfl⟩
  have := (Pd.twice hw).2.2
  rwa [List.length_append, show w.length + w.length - w.length = w.length by omega, ← List.length_append] at this
theorem twice_dvd {w : List Nat} {p : Nat} (hw : w ≠ []) (h : LeastP (w ++ w) p) : (w.length : Int) % (p : Int) = 0 := by
  have a := Pd.twice hw
  have hle := h.2 _ a
  have g := Pd.gcd _ (Nat.le_refl _) h.1 a (by rw [List.length_append]; omega)
  have h1 := h.2 _ g
  have h2 : Nat.gcd p w.length ∣ p := Nat.gcd_dvd_left _ _
  have e : Nat.gcd p w.length = p := Nat.le_antisymm (Nat.le_of_dvd h.1.1 h2) h1
  have h3 : p ∣ w.length := by
    have := Nat.gcd_dvd_right p w.length
    rwa [e] at this
  exact Int.emod_eq_zero_of_dvd (Int.natCast_dvd_natCast.mpr h3)
theorem pers_gcd {w : List Nat} {a b : Int} (ha : a ∈ pers w) (hb : b ∈ pers w) (h : a + b ≤ w.length) : (Int.gcd a b : Int) ∈ pers w := by
  obtain ⟨p, rfl, hp⟩ := mem_pers.mp ha
  obtain ⟨q, rfl, hq⟩ := mem_pers.mp hb
  exact mem_pers.mpr ⟨_, rfl, Pd.gcd _ (Nat.le_refl _) hp hq (by omega)⟩
theorem longer_mem {w : List Nat} {c : Nat} {s : Int} (h : s ∈ nI (bs (w ++ [c]) (w ++ [c]).length)) (h0 : 0 < s) : s - 1 ∈ nI (bs w w.length) := by
  obtain ⟨k, hk, rfl⟩ := mem_nI.mp h
  have hb := mem_bs.mp hk
  rw [List.length_append, List.length_singleton] at hb
  obtain ⟨k, rfl⟩ : ∃ k', k = k' + 1 := ⟨k - 1, by omega⟩
  exact mem_nI.mpr ⟨k, mem_bs.mpr ((Bd.app (Nat.le_refl _)).mp hb.pred.1), by omega⟩
theorem bs_ne {w : List Nat} (hw : w ≠ []) : 0 < (nI (bs w w.length)).length := by
  have h0 : 0 < w.length := List.length_pos_iff.mpr hw
  have : (0 : Nat) ∈ bs w w.length := mem_bs.mpr (Bd.zero h0 (Nat.le_refl _))
  rw [nI_len]
  exact List.length_pos_of_mem this
theorem bs_ends {w : List Nat} {x : Nat} (h : (nI (bs w w.length))[(nI (bs w w.length)).length - 1]? = some (x : Int)) : x ≤ w.length ∧ bs w w.length = bs (w.take x) (w.take x).length ++ [x] := by
  have hm := List.mem_of_getElem? h
  obtain ⟨k, hk, e⟩ := mem_nI.mp hm
  have ek : x = k := by omega
  have hlt := bs_lt hk
  obtain ⟨t, ht, e2⟩ := bs_last (w := w) (i := w.length) (by omega) (Nat.le_refl _)
  have : (x : Int) = t := by
    rw [e2, nI_app, List.length_append] at h
    rw [List.getElem?_append_right (by show _ ≤ _ + 1 - 1; omega)] at h
    have h' : (nI [t])[(nI (bs w t)).length + 1 - 1 - (nI (bs w t)).length]? = some (x : Int) := h
    rw [show (nI (bs w t)).length + 1 - 1 - (nI (bs w t)).length = 0 by omega] at h'
    exact (Option.some.inj h').symm
  have et : x = t := by omega
  subst et
  have hx : x ≤ w.length := by omega
  have hl : (w.take x).length = x := by rw [List.length_take]; omega
  refine ⟨hx, ?_⟩
  rw [hl, bs_take hx]
  exact e2
end M00

set_option Elab.async false
set_option linter.all false
set_option maxRecDepth 100000
set_option maxHeartbeats 4000000
set_option autoImplicit false
namespace DL
open PySem PySem.Spec PyProof.Rows L2 M00
local macro_rules | `(tactic| walk_at "lit") => `(tactic| fail "lit")
local macro_rules | `(tactic| walk_at "side") => `(tactic| first | omega | (simp only [CMul, CDiv, CPow, List.length_nil, List.length_cons, List.length_map, List.length_append, List.length_replicate]; omega) | decide | (simp; done) | (simp; omega))
local macro_rules | `(tactic| walk_at "es1") => `(tactic| first
  | ((with_reducible refine es_own (xs := ?dld) ?dlh ?_); (case dlh => exact rfl))
  | ((with_reducible refine es_el ?_); walk_at "el1")
  | with_reducible refine es_ev ?_)
local macro_rules | `(tactic| walk_at "el1") => `(tactic| first
  | with_reducible refine el_lst ?_
  | with_reducible refine el_cat ?_
  | with_reducible refine el_rep ?_
  | with_reducible refine el_listOf ?_
  | with_reducible refine el_revL ?_
  | with_reducible refine el_slL ?_
  | with_reducible refine el_sortedI ?_
  | with_reducible refine el_sortedSetS ?_
  | with_reducible refine el_sortedSetT ?_
  | with_reducible refine el_call ?_)
local macro_rules | `(tactic| walk_at "et1") => `(tactic| first
  | with_reducible refine et_ib ?_
  | with_reducible refine et_eq ?_
  | with_reducible refine et_ne ?_
  | with_reducible refine et_and ?_
  | with_reducible refine et_or ?_
  | with_reducible refine et_not ?_
  | with_reducible refine et_ltS ?_
  | with_reducible refine et_gtS ?_
  | with_reducible refine et_leS ?_
  | with_reducible refine et_geS ?_
  | with_reducible refine et_yes ?_
  | with_reducible refine et_test ?_
  | with_reducible refine et_B ?_)
local macro_rules | `(tactic| walk_at "ev1") => `(tactic| first
  | ((with_reducible refine ev_var (d := ?dld) ?dlh ?_); (case dlh => exact rfl))
  | with_reducible refine ev_int ?_
  | with_reducible refine ev_ii ?_
  | with_reducible refine ev_iiC ?_
  | ((with_reducible refine ev_own (xs := ?dld) ?dlh ?_); (case dlh => exact rfl))
  | ((with_reducible refine ev_str (x := ?dld) ?dlh ?_); (case dlh => walk_at "lit"))
  | with_reducible refine ev_int1 ?_
  | with_reducible refine ev_call ?_
  | with_reducible refine ev_callN ?_
  | with_reducible refine ev_callS ?_
  | ((with_reducible refine ev_what (by assumption) (by exact rfl) ?_))
  | with_reducible refine ev_lenS ?_
  | ((with_reducible refine ev_lenRaw (a := ?dla) (ns := ?dln) ?dlh ?dls ?_); (case dlh => exact rfl); (case dls => assumption))
  | with_reducible refine ev_lenL ?_
  | with_reducible refine ev_ixS ?_
  | ((with_reducible refine ev_ixRaw (a := ?dla) (ns := ?dln) ?dlh ?dls ?_); (case dlh => exact rfl); (case dls => assumption))
  | with_reducible refine ev_ixL ?_
  | with_reducible refine ev_ixT ?_
  | with_reducible refine ev_slS ?_
  | with_reducible refine ev_addS ?_
  | with_reducible refine ev_mulS ?_
  | with_reducible refine ev_revS ?_
  | with_reducible refine ev_bl ?_
  | with_reducible refine ev_non ?_
  | with_reducible refine ev_ib ?_
  | with_reducible refine ev_eq ?_
  | with_reducible refine ev_ne ?_
  | with_reducible refine ev_neg ?_
  | with_reducible refine ev_tup ?_
  | with_reducible refine ev_abs ?_
  | with_reducible refine ev_max2 ?_
  | with_reducible refine ev_min2 ?_
  | with_reducible refine ev_sum ?_
  | with_reducible refine ev_all ?_
  | with_reducible refine ev_any ?_
  | with_reducible refine ev_if ?_
  | with_reducible refine ev_notV ?_
  | with_reducible refine ev_andV ?_
  | with_reducible refine ev_orV ?_
  | with_reducible refine ev_isNn ?_
  | with_reducible refine ev_notNn ?_
  | with_reducible refine ev_isBl ?_
  | with_reducible refine ev_notBl ?_
  | with_reducible refine ev_isV ?_
  | with_reducible refine ev_isiT ?_
  | with_reducible refine ev_isi ?_
  | with_reducible refine ev_chainS ?_
  | with_reducible refine ev_chainI ?_
  | with_reducible refine ev_ltS ?_
  | with_reducible refine ev_leS ?_
  | with_reducible refine ev_in ?_
  | with_reducible refine ev_join ?_
  | with_reducible refine ev_maxL ?_
  | with_reducible refine ev_minL ?_
  | with_reducible refine ev_eqD ?_
  | with_reducible refine ev_neD ?_
  | ((with_reducible refine ev_el ?_); walk_at "el1"))
local macro_rules | `(tactic| walk_at "wp1") => `(tactic| first
  | with_reducible refine wp_seq ?_
  | with_reducible refine nx_sq ?_
  | ((with_reducible refine wp_asgO ?_); first | with_reducible refine el_lst ?_ | with_reducible refine el_rep ?_)
  | with_reducible refine wp_asg ?_
  | with_reducible refine wp_if ?_
  | ((with_reducible refine wp_aug (a := ?dld) ?dlh ?_); (case dlh => exact rfl))
  | ((with_reducible refine wp_append (xs := ?dld) ?dlh ?_); (case dlh => exact rfl))
  | ((with_reducible refine wp_augL (xs := ?dld) ?dlh ?_); (case dlh => exact rfl))
  | ((with_reducible refine wp_setL (xs := ?dld) ?dlh ?_); (case dlh => exact rfl))
  | ((with_reducible refine wp_reverse (xs := ?dld) ?dlh ?_); (case dlh => exact rfl))
  | with_reducible refine wp_par ?_
  | with_reducible refine wp_try ?_
  | ((with_reducible refine wp_raise ?dlx ?_); (case dlx => assumption))
  | with_reducible refine wp_tup2 ?_
  | with_reducible refine wp_drop ?_
  | with_reducible refine wp_next ?_
  | with_reducible refine wp_break ?_
  | with_reducible refine wp_continue ?_
  | (refine wp_ret (Φ := ?dld) ?dlr ?_; (case dlr => assumption)))
local macro_rules | `(tactic| walk_at "lf1") => `(tactic| first
  | with_reducible refine eqT_int ?_ ?_
  | with_reducible refine eqT_str ?_ ?_
  | with_reducible refine eqT_bl ?_ ?_
  | with_reducible refine eqP_int ?_
  | with_reducible refine eqP_str ?_
  | with_reducible refine eqP_bl ?_
  | with_reducible refine neP_int ?_
  | with_reducible refine neP_str ?_
  | with_reducible refine neP_bl ?_
  | with_reducible refine lenP_l ?_
  | with_reducible refine lenP_t ?_
  | with_reducible refine ⟨_, _, rfl, rfl, ?_⟩
  | with_reducible refine ⟨_, rfl, ?_⟩
  | with_reducible refine ⟨_, _, rfl, ?_⟩
  | with_reducible refine Or.inl ⟨_, rfl, ?_⟩
  | with_reducible refine Or.inr ⟨_, rfl, ?_⟩
  | ((with_reducible refine And.intro ?dls ?_); (case dls => walk_at "side")))
local macro_rules | `(tactic| walk_at "w1") => `(tactic| first
  | ((with_reducible show Ev _ _ _ _ _); walk_at "ev1")
  | ((with_reducible show Ea _ _ _ _ _); first | with_reducible refine ea_cons ?_ | with_reducible refine ea_nil ?_)
  | ((with_reducible show Et _ _ _ _ _); walk_at "et1")
  | ((with_reducible show Es _ _ _ _); walk_at "es1")
  | ((with_reducible show Eo _ _ _ _); first | with_reducible refine eo_none ?_ | with_reducible refine eo_some ?_)
  | ((with_reducible show El _ _ _ _); walk_at "el1")
  | walk_at "wp1"
  | walk_at "lf1")
local macro_rules | `(tactic| walk_at "w") => `(tactic| repeat walk_at "w1")

local macro_rules | `(tactic| walk_at "lit") => `(tactic| first | with_reducible exact lit_e0 | with_reducible exact lit_a | with_reducible exact lit_z | with_reducible exact lit_ab | with_reducible exact lit_abz)
def rBorderLengths : Rd1 := fun args Φ => ∃ w, args = [.str w] ∧ w.length ≤ 10000 ∧ ∀ T : List Int, T.length = w.length + 1 → (∀ j, 1 ≤ j → j ≤ w.length → ∃ t : Nat, T[j]? = some (t : Int) ∧ Lb w j t) → Φ (.list (T.map .int))
def rBorders : Rd1 := fun args Φ => ∃ w, args = [.str w] ∧ w.length ≤ 10000 ∧ Lets w ∧ Φ (.list ((nI (bs w w.length)).map .int))
def rPeriods : Rd1 := fun args Φ => ∃ w, args = [.str w] ∧ w.length ≤ 10000 ∧ Lets w ∧ Φ (.list ((pers w).map .int))
def rLeastPeriod : Rd1 := fun args Φ => ∃ w, args = [.str w] ∧ w.length ≤ 10000 ∧ Lets w ∧ w ≠ [] ∧ ∀ p : Nat, (pers w)[0]? = some (p : Int) → LeastP w p → Φ (.int p)
def t_border_lengths (K : PySem.W.Frag) : TS :=
  (tSeq (tAsg (tOp rRep (tLst (tCons (tC (.int 0)) tNil)) (tOp (rI0 fun i j => .int (i + j)) (tCB rLenS (tCons (tVar 0) tNil)) (tC (.int 1)))) (gName 1))
  (tSeq (tAsg (tC (.int 0)) (gName 2))
  (tSeq (tFor (iRng2 (tCons (tC (.int 1)) (tCons (tCB rLenS (tCons (tVar 0) tNil)) tNil))) (gName 3) (tSeq (tWhile (tAnd (tTest (tOp (rI0 fun i j => .bl (decide (j < i))) (tVar 2) (tC (.int 0)))) (tTest (tOp rNe (tOp rIxS (tVar 0) (tVar 3)) (tOp rIxS (tVar 0) (tVar 2))))) (tAsg (tOp (rIxL K) (tVar 1) (tVar 2)) (gName 2)))
  (tSeq (tIfS (tTest (tOp rEq (tOp rIxS (tVar 0) (tVar 3)) (tOp rIxS (tVar 0) (tVar 2)))) (tAug 2 (tC (.int 1)) (ipI fun i j => i + j)) tNext)
  (tAsg (tVar 2) (gSub (tVar 1) (tOp (rI0 fun i j => .int (i + j)) (tVar 3) (tC (.int 1))) rSetL)))))
  (tRet (tVar 1)))))

def t_borders (K : PySem.W.Frag) : TS :=
  (tSeq (tDrop (tCall (spD 1 rCheckWord) [] E0 (tCons (tVar 0) tNil)))
  (tSeq (tAsg (tCall (spD 1 rBorderLengths) [] E0 (tCons (tVar 0) tNil)) (gName 1))
  (tSeq (tAsg (tLst tNil) (gName 2))
  (tSeq (tAsg (tCB rLenS (tCons (tVar 0) tNil)) (gName 3))
  (tSeq (tWhile (tTest (tOp (rI0 fun i j => .bl (decide (j < i))) (tVar 3) (tC (.int 0)))) (tSeq (tAsg (tOp (rIxL K) (tVar 1) (tVar 3)) (gName 3))
  (tDrop (tBM K "list" rAppend (tVar 2) (tCons (tVar 3) tNil)))))
  (tRet (tRevL K (tVar 2))))))))

def t_periods (K : PySem.W.Frag) : TS :=
  (tRet (tLc (iList K (tRevL K (tCall (spD 1 rBorders) [] E0 (tCons (tVar 0) tNil)))) (gName 1) tYes (tOp (rI0 fun i j => .int (i - j)) (tCB rLenS (tCons (tVar 0) tNil)) (tVar 1)) [1]))

def t_least_period (K : PySem.W.Frag) : TS :=
  (tSeq (tDrop (tCall (spD 1 rCheckWord) [] E0 (tCons (tVar 0) tNil)))
  (tSeq (tIfS (tTest (tOp rEq (tVar 0) (tC (.str "")))) tNever tNext)
  (tRet (tOp (rIxL K) (tCall (spD 1 rPeriods) [] E0 (tCons (tVar 0) tNil)) (tC (.int 0))))))

theorem borderLengths_i {w : List Nat} {Φ : Dt → Prop} (h1 : w.length ≤ 10000) (h : ∀ T : List Int, T.length = w.length + 1 → (∀ j, 1 ≤ j → j ≤ w.length → ∃ t : Nat, T[j]? = some (t : Int) ∧ Lb w j t) → Φ (.list (T.map .int))) : rBorderLengths [.str w] Φ := ⟨w, rfl, h1, h⟩
theorem borders_i {w : List Nat} {Φ : Dt → Prop} (h1 : w.length ≤ 10000) (h2 : Lets w) (h : Φ (.list ((nI (bs w w.length)).map .int))) : rBorders [.str w] Φ := ⟨w, rfl, h1, h2, h⟩
theorem periods_i {w : List Nat} {Φ : Dt → Prop} (h1 : w.length ≤ 10000) (h2 : Lets w) (h : Φ (.list ((pers w).map .int))) : rPeriods [.str w] Φ := ⟨w, rfl, h1, h2, h⟩
theorem leastPeriod_i {w : List Nat} {Φ : Dt → Prop} (h1 : w.length ≤ 10000) (h2 : Lets w) (h3 : w ≠ []) (h : ∀ p : Nat, (pers w)[0]? = some (p : Int) → LeastP w p → Φ (.int p)) : rLeastPeriod [.str w] Φ := ⟨w, rfl, h1, h2, h3, h⟩

theorem w_border_lengths {K : PySem.W.Frag} : WpD (t_border_lengths K) 4 rBorderLengths := by
  rintro B Q args Φ ⟨w, rfl, hl, hΦ⟩ hr
  show Wp B (t_border_lengths K) [.dat (.str w), .no, .no, .no] (Top Q)
  unfold t_border_lengths
  walk_at "w"
  have e0 : (List.replicate ((w.length : Int) + 1).toNat [Dt.int 0]).flatten = (List.replicate (w.length + 1) (0 : Int)).map .int := by
    rw [show ((w.length : Int) + 1).toNat = w.length + 1 by omega]
    generalize w.length + 1 = n
    induction n with
    | zero => rfl
    | succ n ih => rw [List.replicate_succ, List.flatten_cons, ih]; rfl
  rw [e0]
  refine wp_forR2 ?_
  walk_at "w"
  refine ⟨fun i e => ∃ (T : List Int) (h : Nat) (x : Sl), e = [.dat (.str w), .own (T.map .int), .dat (.int h), x] ∧ T.length = w.length + 1 ∧ (i < w.length → Lb w (i + 1) h) ∧ ∀ j, 1 ≤ j → j ≤ i + 1 → j ≤ w.length → ∃ t : Nat, T[j]? = some (t : Int) ∧ Lb w j t, ?_, ?_, ?_⟩
  · refine ⟨List.replicate (w.length + 1) 0, 0, _, rfl, by simp, fun h => ?_, fun j h1 h2 h3 => ?_⟩
    · exact ⟨Bd.zero (by omega) (by omega), fun k hk => by have := hk.1; omega⟩
    · have : j = 1 := by omega
      subst this
      exact ⟨0, by rw [List.getElem?_replicate, if_pos (by omega)]; rfl, Bd.zero (by omega) (by omega), fun k hk => by have := hk.1; omega⟩
  · rintro i d e hi rfl ⟨T, h, x, rfl, hT, hL, hT2⟩
    have hi' : i + 1 < w.length := by omega
    have hL := hL (by omega)
    refine wp_seq ?_
    refine wp_rest (fun e => ∃ h : Nat, e = [.dat (.str w), .own (T.map .int), .dat (.int h), .dat (.int (1 + i))] ∧ Bd w (i + 1) h ∧ (∀ l, Bd w (i + 2) (l + 1) → l ≤ h) ∧ (h = 0 ∨ w[i + 1]? = w[h]?)) ?_ (fun u hu => ?_)
    · rintro e ⟨h, rfl, hb, hm, hs⟩
      refine wp_seq ?_
      refine wp_rest (fun e => ∃ h : Nat, e = [.dat (.str w), .own (T.map .int), .dat (.int h), .dat (.int (1 + i))] ∧ Lb w (i + 2) h) ?_ (fun u hu => ?_)
      · rintro e ⟨h, rfl, hb⟩
        walk_at "w"
        refine leaf_set (by omega) (by rw [List.length_map]; omega) ?_
        rw [show ((1 : Int) + i + 1).toNat = i + 2 by omega, ← List.map_set]
        refine nx_lo ⟨T.set (i + 2) h, h, _, rfl, by rw [List.length_set]; exact hT, fun _ => hb, fun j h1 h2 h3 => ?_⟩
        by_cases c : j = i + 2
        · subst c
          exact ⟨h, by rw [List.getElem?_set_self (by omega)], hb⟩
        · obtain ⟨t, q1, q2⟩ := hT2 j h1 (by omega) h3
          exact ⟨t, by rw [List.getElem?_set_ne (by omega)]; exact q1, q2⟩
      · have hhw : h < w.length := by have := hb.1; omega
        walk_at "w"
        refine leaf_ixS (by omega) (by omega) (by omega) fun c hc => ?_
        walk_at "w"
        refine leaf_ixS (by omega) (by omega) (by omega) fun c' hc' => ?_
        rw [show ((1 : Int) + i).toNat = i + 1 by omega] at hc
        rw [Int.toNat_natCast] at hc'
        walk_at "w"
        · intro he
          have he := (List.cons.inj he).1
          walk_at "w"
          exact hu _ ⟨h + 1, rfl, hb.succ (by omega) (by rw [hc, hc', he]), fun m hk => by
            cases m with
            | zero => omega
            | succ l => have := hm l hk; omega⟩
        · intro he
          walk_at "w"
          have hz : h = 0 := hs.elim id fun z => by
            rw [hc, hc'] at z
            exact absurd (by rw [Option.some.inj z]) he
          subst hz
          exact hu _ ⟨0, rfl, Bd.zero (by omega) (by omega), fun m hk => by
            cases m with
            | zero => omega
            | succ l =>
              have h1 := hm l hk
              have h2 := hk.pred.2
              rw [show l = 0 by omega, hc, hc'] at h2
              exact absurd (by rw [Option.some.inj h2]) he⟩
    · refine wp_while (fun k e => ∃ h : Nat, k = h ∧ e = [.dat (.str w), .own (T.map .int), .dat (.int h), .dat (.int (1 + i))] ∧ Bd w (i + 1) h ∧ ∀ l, Bd w (i + 2) (l + 1) → l ≤ h) h ⟨h, rfl, rfl, hL.1, fun l hl => hL.2 l hl.pred.1⟩ ?_
      rintro k e ⟨h, rfl, rfl, hb, hm⟩
      have hhw : k < w.length := by have := hb.1; omega
      walk_at "w"
      refine ⟨fun h0 => ?_, fun h0 => ?_⟩
      · walk_at "w"
        refine leaf_ixS (by omega) (by omega) (by omega) fun c hc => ?_
        walk_at "w"
        refine leaf_ixS (by omega) (by omega) (by omega) fun c' hc' => ?_
        rw [show ((1 : Int) + i).toNat = i + 1 by omega] at hc
        rw [Int.toNat_natCast] at hc'
        walk_at "w"
        · intro he
          have he := (List.cons.inj he).1
          exact hu _ ⟨k, rfl, hb, hm, .inr (by rw [hc, hc', he])⟩
        · intro he
          obtain ⟨t, ht, hLt⟩ := hT2 k (by omega) (by have := hb.1; omega) (by omega)
          walk_at "w"
          refine leaf_ixI (by omega) (by omega) fun d hd => ?_
          rw [Int.toNat_natCast, ht] at hd
          cases hd
          walk_at "w"
          refine nx_lo ⟨t, hLt.1.1, t, rfl, rfl, hb.trans hLt.1, fun l hl => ?_⟩
          have h1 := hm l hl
          have h2 := hl.pred
          have h3 : l ≠ k := fun z => by
            rw [z, hc, hc'] at h2
            exact he (by rw [Option.some.inj h2.2])
          exact hLt.2 l (hb.cut h2.1 (by omega))
      · exact hu _ ⟨k, rfl, hb, hm, .inl (by omega)⟩
  · rintro e ⟨T, h, x, rfl, hT, hL, hT2⟩
    show Wp B (tRet (tVar 1)) _ (Top Q)
    refine wp_freeze (i := 1) rfl ?_
    walk_at "w"
    exact hΦ T hT fun j h1 h2 => hT2 j h1 (by omega) h2
theorem w_borders {K : PySem.W.Frag} : WpD (t_borders K) 4 rBorders := by
  rintro B Q args Φ ⟨w, rfl, hl, hw, hΦ⟩ hr
  show Wp B (t_borders K) [.dat (.str w), .no, .no, .no] (Top Q)
  unfold t_borders
  walk_at "w"
  refine checkWord_i hl hw ?_
  walk_at "w"
  refine borderLengths_i hl fun T hT hT2 => ?_
  walk_at "w"
  refine wp_while (fun k e => ∃ (h : Nat) (acc : List Int), k = h ∧ e = [.dat (.str w), .dat (.list (T.map .int)), .own (acc.map .int), .dat (.int h)] ∧ h ≤ w.length ∧ nI (bs w w.length) = nI (bs w h) ++ acc.reverse) w.length ⟨w.length, [], rfl, rfl, Nat.le_refl _, by simp⟩ ?_
  rintro k e ⟨h, acc, rfl, rfl, hh, he⟩
  have hal : acc.length ≤ 10000 := by
    have h1 := congrArg List.length he
    rw [nI_len, List.length_append, List.length_reverse] at h1
    have := bs_len w w.length
    omega
  walk_at "w"
  refine ⟨fun h0 => ?_, fun h0 => ?_⟩
  · obtain ⟨t, ht, hL⟩ := hT2 k (by omega) hh
    have hb := bs_lb hL
    have htk := hL.1.1
    walk_at "w"
    refine leaf_ixI (by omega) (by omega) fun d hd => ?_
    rw [Int.toNat_natCast, ht] at hd
    cases hd
    walk_at "w"
    refine nx_lo ⟨t, htk, t, acc ++ [(t : Int)], rfl, by rw [List.map_append]; rfl, by omega, ?_⟩
    rw [he, hb, nI_app, List.reverse_append, List.append_assoc]
    rfl
  · have : k = 0 := by omega
    subst this
    rw [bs_zero] at he
    show Wp B (tRet (tRevL K (tVar 2))) _ (Top Q)
    walk_at "w"
    rw [← List.map_reverse, ← show nI (bs w w.length) = acc.reverse from he]
    exact hΦ
theorem w_periods {K : PySem.W.Frag} : WpD (t_periods K) 2 rPeriods := by
  rintro B Q args Φ ⟨w, rfl, hl, hw, hΦ⟩ hr
  show Wp B (t_periods K) [.dat (.str w), .no] (Top Q)
  unfold t_periods
  walk_at "w"
  refine ev_el (el_lcL (fun ys h => by cases h) ?_)
  walk_at "w"
  refine borders_i hl hw ?_
  walk_at "w"
  rw [← List.map_reverse]
  refine ct_mapI (f := fun k => .int ((w.length : Int) - k)) (by rw [List.length_reverse, nI_len]; have := bs_len w w.length; omega) (fun i z hz => ?_) ?_
  · walk_at "w"
    rfl
  · rw [show (nI (bs w w.length)).reverse.map (fun k => Dt.int ((w.length : Int) - k)) = (pers w).map Dt.int by unfold pers; rw [List.map_map]; rfl]
    exact hΦ
theorem w_least_period {K : PySem.W.Frag} : WpD (t_least_period K) 1 rLeastPeriod := by
  rintro B Q args Φ ⟨w, rfl, hl, hw, hne, hΦ⟩ hr
  show Wp B (t_least_period K) [.dat (.str w)] (Top Q)
  unfold t_least_period
  walk_at "w"
  refine checkWord_i hl hw ?_
  walk_at "w"
  · exact fun h => absurd h hne
  · intro _
    walk_at "w"
    refine periods_i hl hw ?_
    walk_at "w"
    obtain ⟨p, hp, hL⟩ := pers_head hne
    refine ⟨0, .int p, rfl, ?_, hΦ p hp hL⟩
    refine atI_nn (by omega) ?_
    rw [List.getElem?_map, show Int.toNat 0 = 0 from rfl, hp]
    rfl
end DL

set_option Elab.async false
set_option linter.all false
set_option maxRecDepth 100000
set_option maxHeartbeats 4000000
/-! DX: several clauses `except C as n`, and the __init__ of a base class that is the program's own -/
namespace DX
open PySem PySem.Spec PyProof.Rows L2
/-- a clause: the class that it names, the slot of its name, its suite -/
abbrev Clause := Value × Nat × (Addr → Value → Option Addr → TS)
/-- the ends of a suite behind which the name in slot i is gone -/
def goneD (i : Nat) (D : Ends) : Ends where
  nx := fun τ G => D.nx (τ.set i none) G
  rt := D.rt
  bk := fun τ G => D.bk (τ.set i none) G
  ct := fun τ G => D.ct (τ.set i none) G
/-- what the clauses in their order wish of an exception -/
def wClauses (K : PySem.W.Frag) (Wout : WX) (D : Ends) : List Clause → WX
  | [] => Wout
  | (c, i, suite) :: more => fun cls d τ G => ∃ fits, PySem.W.exmOne K cls c = some fits ∧
      (fits = true → ∀ a, G a = none → suite a cls d (goneD i D) (τ.set i (some (.ref a))) G) ∧ (fits = false → wClauses K Wout D more cls d τ G)
/-- the derivations of the suites -/
inductive ClausesOk (X : Cx) : List ExceptHandler → List Clause → Prop
  | none : ClausesOk X [] []
  | one {x n : Str} {c : Value} {i : Nat} {suite : Addr → Value → Option Addr → TS} {b : Stmt} {bs : List Stmt} {p1 p2 : Pos} {hs : List ExceptHandler} {l : List Clause}
      (named : Names X x c) (slot : X.N[i]? = some n) (here : X.env.kindOf n = some .local)
      (der : ∀ (a : Addr) (oe : Obj) (cls : Value) (d : Option Addr) (pn : List (Addr × Obj)), Zc cls d oe → (∃ fs, oe.data = .fields fs) → PSs (X.suite a ((a, oe) :: pn)) (b :: bs) (suite a cls d))
      (rest : ClausesOk X hs l) : ClausesOk X (.ExceptHandler (some (.Name x p1)) (some n) (b :: bs) p2 :: hs) ((c, i, suite) :: l)
section
variable {X : Cx} {body : List Stmt} {h1 : ExceptHandler} {hs : List ExceptHandler} {l : List Clause} {pos : Pos} {tb : WX → TS} {Wout : WX}
theorem ps_try_as_many (stk : X.stack = X.env :: X.outer) (fr : X.env.frame = some X.env.locals) (nd : X.N.Nodup) (out : Takes X Wout)
    (db : ∀ (W : WX) (pn : List (Addr × Obj)) (xe : Value → Shared → Prop), Takes (X.tr pn xe) W → PassesOwn (model X.prog X.w) X.A X.env xe → PSs (X.tr pn xe) body (tb W))
    (cl : ClausesOk X (h1 :: hs) l) : PS X (.Try body (h1 :: hs) [] [] pos) (fun D τ G => tb (wClauses X.K Wout D l) D τ G) := by
  constructor
  intro pins s τ G D I want
  have ok := I.ok
  have frames : X.A.frames = some (X.env :: X.outer) := by rw [ok.frames, stk]
  apply wpAny_Try_except
  -- what an exception out of the body meets
  let meet : Value → Shared → Prop := fun e s₁ =>
    wpAny (model X.prog X.w) X.A (noteFrame e X.env) (fun _ s₂ => wpAny (model X.prog X.w) X.A (setFlight e none) (fun _ s₃ => wpAny (model X.prog X.w) X.A (handleBy e X.env (h1 :: hs)) (SP X pins D) X.xe s₃) X.xe s₂) X.xe s₁
  have caught : Takes (X.tr (X.pn ++ pins) meet) (wClauses X.K Wout D l) := by
    rintro u s' ⟨a, B, sI, pins', τ', G', cls, d, rfl, J', ground, upTo, inSky, na, osEq, bare, wish⟩
    have J : Inv X pins τ' G' sI := J'.ofTry ok
    have inSky2 : Sky B (X.env :: X.outer) a (Zc cls d) X.env.locals s'.heap := stk ▸ inSky
    show wpAny (model X.prog X.w) X.A (noteFrame (.ref a) X.env) _ _ _
    apply Sky.land Zc.steady frames fr inSky2
    intro k3 held3 up3
    have J3 : Inv X pins τ' G' { s' with heap := k3 } := J.landed ground held3.1 (upTo.trans up3) osEq bare
    obtain ⟨o3, f3, at3, z3, dat3⟩ := held3.there
    have off : a ∉ frs (X.env :: X.outer) := fun hm => by
      obtain ⟨_, o', e', hnf⟩ := held3.2.2.1.mem hm
      rw [at3] at e'
      cases e'
      exact hnf _ dat3
    have offL : a ≠ X.env.locals := fun z => off (List.mem_filterMap.mpr ⟨X.env, List.mem_cons_self, by rw [fr, z]⟩)
    have offF : a ∉ X.fs := fun hm => by
      obtain ⟨e, he, q⟩ := List.mem_filterMap.mp hm
      exact off (List.mem_filterMap.mpr ⟨e, List.mem_cons_of_mem _ he, q⟩)
    have S3 := J3.suite at3 dat3 na offL offF
    have go : ∀ {hs' : List ExceptHandler} {l' : List Clause}, ClausesOk X hs' l' → wClauses X.K Wout D l' cls d τ' G' →
        wpAny (model X.prog X.w) X.A (handleBy (.ref a) X.env hs') (SP X pins D) X.xe { s' with heap := k3 } := by
      intro hs' l' cl'
      induction cl' with
      | none =>
        intro w
        apply wpAny_handleBy_nil
        obtain ⟨_, _, _, oe, vs, T, oT, ts', he, hz, hd, hf1, hr⟩ := id held3
        unfold PySem.passOn
        refine wpAny_bind (wpAny_field he hd hf1 ?_)
        rw [if_neg (show ¬ ((Value.ref T == Value.none) = true) by simp)]
        have leave : wpAny (model X.prog X.w) X.A (setFlight (.ref a) X.env.frame) (fun _ s4 => wpAny (model X.prog X.w) X.A (throw (.ref a) : Sem Flow) (SP X pins D) X.xe s4) X.xe { s' with heap := k3 } := by
          rw [fr]
          refine HandSPX.setFlight_upZ held3 fun k4 hh4 up4 => wpAny_throw (out _ _ ⟨a, B, sI, pins, τ', G', cls, d, rfl, J, ground, (upTo.trans up3).trans up4, ?_, na, osEq, bare, w⟩)
          exact .inr (.inr (stk ▸ hh4))
        first | exact wpAny_bind (wpAny_pure (wpAny_bind leave)) | exact wpAny_bind leave
      | @one x n c i suite b bs p1 p2 hs2 l2 named slot here der rest ih =>
        rintro ⟨fits, hfits, yes, no⟩
        refine wpAny_handleBy_cons (codeAny_handlers_test ?_) (by intro q; cases q)
        have lookCls : PySem.W.Looks (model X.prog X.w) k3 (typeOf (.ref a)) cls := fun A Q E s k q => wpAny_typeOf_ref (k _ _ at3) (by rw [z3.1]; exact q)
        have lookFit := PySem.W.exm_one (M := model X.prog X.w) J3.kIn lookCls hfits
        have name : ∀ {Q E : Value → Shared → Prop}, Q c { s' with heap := k3 } → wpAny (model X.prog X.w) (X.A.mark (some (.ref a))) (eval (.Name x p1) X.env) Q E { s' with heap := k3 } := by
          intro Q E q
          obtain ⟨hg, hdbg, hm | ⟨hm, hv, hnn⟩⟩ := named
          · exact ld_glob (X := X.suite a ((a, o3) :: (X.pn ++ pins))) S3 hg hm q hdbg
          · exact ld_blt (X := X.suite a ((a, o3) :: (X.pn ++ pins))) S3 hg hm hv q hnn hdbg
        refine name (lookFit.here ?_)
        cases fits with
        | false =>
          show wpAny _ X.A (handleBy (.ref a) X.env hs2) _ _ _
          exact ih (no rfl)
        | true =>
          apply codeAny_handlers_suite_as
          apply HandSPX.lands_againZ held3
          intro k4 held4 up4
          have J4 : Inv X pins τ' G' { s' with heap := k4 } := J.landed ground held4.1 ((upTo.trans up3).trans up4) osEq bare
          obtain ⟨o4, f4, at4, z4, dat4⟩ := held4.there
          have S4 := J4.suite at4 dat4 na offL offF
          refine store_ok (X := X.suite a ((a, o4) :: (X.pn ++ pins))) (v := .ref a) S4 nd slot (.inl here) rfl (fun s5 S5 => ?_) (.inr here)
          have ends : ∀ {τ6 : L2.St} {G6 : Hp} {s6 : Shared} {Q : Shared → Prop}, Inv (X.suite a ((a, o4) :: (X.pn ++ pins))) [] τ6 G6 s6 → (∀ s7, Inv X pins (τ6.set i none) G6 s7 → Q s7) →
              wpAny (model X.prog X.w) X.A (do bindName X.env n .none; unbindBehindTheSuite X.env n p2) (fun _ s7 => Q s7) X.xe s6 := fun S6 hq => gone_ok (S6.unsuite ok) nd slot here hq
          refine wpAny_mono ((der a o4 cls d (X.pn ++ pins) z4 ⟨_, dat4⟩).run [] s5 _ G' _ S5 (yes rfl a na)) (fun f s6 sp6 => ?_) (fun _ _ z => z.elim)
          cases f with
          | ret u =>
            obtain ⟨v6, τ6, G6, S6, r6, q6⟩ := sp6
            exact ends S6 fun s7 J7 => ⟨_, _, _, J7, r6, q6⟩
          | next =>
            obtain ⟨τ6, G6, S6, q6⟩ := sp6
            exact ends S6 fun s7 J7 => ⟨_, _, J7, q6⟩
          | brk =>
            obtain ⟨τ6, G6, S6, q6⟩ := sp6
            exact ends S6 fun s7 J7 => ⟨_, _, J7, q6⟩
          | cont =>
            obtain ⟨τ6, G6, S6, q6⟩ := sp6
            exact ends S6 fun s7 J7 => ⟨_, _, J7, q6⟩
    exact go cl wish
  refine wpAny_mono ((db _ (X.pn ++ pins) meet caught PassesOwn.looking).run [] s τ G D (I.toTry _) want) (fun f s1 sp1 => ?_) (fun e s1 he => he)
  cases f with
  | ret u =>
    obtain ⟨v, τ', G', J', r, q⟩ := sp1
    exact ⟨v, τ', G', J'.ofTry ok, r, q⟩
  | next =>
    obtain ⟨τ', G', J', q⟩ := sp1
    exact wpAny_execs_nil ⟨τ', G', J'.ofTry ok, q⟩
  | brk =>
    obtain ⟨τ', G', J', q⟩ := sp1
    exact ⟨τ', G', J'.ofTry ok, q⟩
  | cont =>
    obtain ⟨τ', G', J', q⟩ := sp1
    exact ⟨τ', G', J'.ofTry ok, q⟩
end
section
variable {X : Cx} {e : Expr} {es : List Expr} {ta : TA} {p1 p2 pos : Pos}
/-- L.__init__(self, ..) where L is an own class that has none of its own -/
theorem pe_binit {x : Str} {L : Addr} {mc : Value} {pl : Sem Bool} (hg : Gl X x) (hm : X.mg x = some (.ref L)) (cr : ClX.CRead X.K L mc) (vV : PySem.W.findCls X.K (.ref L) mc "__init__" = some (.val (.builtin "ValueError.__init__"))) (ha : PA X (e :: es) ta)
    (hdb : (x == ("__debug__" : Str)) = false := by decide)
    (hc : eval (.Call (.Attribute (.Name x p1) "__init__" p2) (e :: es) [] pos) X.env = (do
      let ov ← eval (.Name x p1) X.env
      standAt p2.atName
      let (f, first) ← holding [ov] (getMethod ov "__init__" pl)
      callWith pos f first (backTo pos (starEach (e :: es) X.env)) (backToKw pos (keywordEach [] X.env))) := by rfl)
    (he : starEach (e :: es) X.env = (false, eval e X.env) :: starEach es X.env := by rfl) (hpl : (backTo pos (starEach es X.env)).any (·.1) = false := by rfl) :
    PE X (.Call (.Attribute (.Name x p1) "__init__" p2) (e :: es) [] pos) (tVeI X.K ta) := by
  constructor
  intro pins s τ G Q I want
  refine PySem.W.methodCall_KW (ld_glob I hg hm ?_ hdb) hc
  refine PySem.W.method_cls I.kIn cr.ga (PySem.W.cls_value I.kIn cr.rd vV (by decide +kernel) ?_)
  show wpAny _ _ (callWith pos (Value.builtin "ValueError.__init__") [] (backTo pos (starEach (e :: es) X.env)) []) _ _ _
  refine PyProof.Rows.callWith_method1 (thn (ha.run pos pins _ τ G _ (I.tok _) want) ?_) he hpl
  rintro us s1 ⟨vs, G1, I1, r1, a, C, ws, rfl, short, T, ea, q⟩
  cases r1 with
  | @cons _ u0 _ ur ra rw' =>
    have ea0 : u0 = Value.ref a := ra
    subst ea0
    have few : ur.length ≤ sizeLine := by
      have := Paired.length rw'
      rw [sizeLine_eq]
      omega
    exact oinit_ok T I1 ea few fun s' J => ⟨.non, G1, J, rfl, q⟩
end
end DX

set_option Elab.async false
set_option linter.all false
set_option maxRecDepth 100000
set_option maxHeartbeats 4000000
set_option autoImplicit false
/-! DX2: data and judgements for defs that raise -/
namespace DL
open PySem PySem.Spec PyProof.Rows L2 DX
/-- what an exception's own dict holds: the word that tells why -/
def xdO (x : List Nat) : HO := .xd [(("what" : Str), V.str (S x))]
abbrev RdX := List Dt → (Dt → Prop) → (Addr → List Nat → Prop) → Prop
/-- what may be let out -/
def Rx (B : Bs) (E : XK) (Ψ : Addr → List Nat → Prop) : Prop := ∀ C x dx H', Ψ C x → Ex B.H0 H' → B.H0 dx = none → H' dx = some (xdO x) → E (.ref C) (some dx) H'
def spX (n : Nat) (R : RdX) : Sp := fun vs H Q E => ∃ (G : Hp) (args : List Dt) (Φ : Dt → Prop) (Ψ : Addr → List Nat → Prop), args.length = n ∧ Ex G H ∧ RpAll G args vs ∧ R args Φ Ψ ∧ Rt ⟨H, G, []⟩ Q Φ ∧ Rx ⟨H, G, []⟩ E Ψ
def WpX (t : XK → TS) (n : Nat) (R : RdX) : Prop := ∀ (B : Bs) (Q : VK) (E : XK) (args : List Dt) (Φ : Dt → Prop) (Ψ : Addr → List Nat → Prop), R args Φ Ψ → Rt B Q Φ → Rx B E Ψ → Wp B (t E) (args.map Sl.dat ++ List.replicate (n - args.length) Sl.no) (Top Q)
/-- W is what the body wishes of an exception of C that tells x -/
def Wx (B : Bs) (env : List Sl) (W : WX) (C : Addr) (x : List Nat) : Prop := ∀ F H σ dx, EnvOk B F H σ env → B.H0 dx = none → F dx = none → H dx = some (xdO x) → W (.ref C) (some dx) σ H
/-- out of the def -/
abbrev WOut (E : XK) : WX := fun cls d _ H => E cls d H
theorem wx_out {B : Bs} {env : List Sl} {E : XK} {Ψ : Addr → List Nat → Prop} {C : Addr} {x : List Nat} (hx : Rx B E Ψ) (h : Ψ C x) : Wx B env (WOut E) C x := fun F H σ dx e h0 _ h1 => hx C x dx H h e.hh h0 h1
structure DfX (P : Program) (w : World) (K : PySem.W.Frag) (mg : Str → Option Value) (base : Heap) (k : Nat) (x : Str) (ps : List Str) (sp : Sp) : Prop where
  ex : ∃ (f : Addr) (fd : FuncData), FnOk P w K mg base (L2.CX P w) k f fd ps sp ∧ mg x = some (.ref f) ∧ PySem.W.keepIn K (.ref f) = true ∧ Binds K fd ps []
section
variable {P : Program} {w : World} {K : PySem.W.Frag} {mg : Str → Option Value} {base : Heap}
theorem DfX.mk' {x : Str} {ps : List Str} {sp : Sp} {k : Nat} {f : Addr} {fd : FuncData} (h : FnOk P w K mg base (L2.CX P w) k f fd ps sp) (hm : mg x = some (.ref f)) (hk : PySem.W.keepIn K (.ref f) = true) (hb : Binds K fd ps []) : DfX P w K mg base k x ps sp := ⟨f, fd, h, hm, hk, hb⟩
/-- THE RULE for a def that may raise -/
theorem okX {x qual : Str} {st : Stmt} {f : Addr} {fd : FuncData} {N ps : List Str} {k n : Nat} {R : RdX} {t : XK → TS} (F : Fun K x qual st f fd) (SC : FnScope N ps (defScope st)) (hps : ps.length ≤ N.length) (hn : n = ps.length)
    (hbody : ∀ (cdv : Value) (A : Around) (outer : List Env) (s : Shared) (H : Hp) (E : XK), Room k (A.deeper (envOfC qual (defScope st) s.heap.objs.size f cdv)) →
      PSs (cxOf (L2.CX P w) P w K mg base N qual (defScope st) f cdv A outer s H E) (defBody st) (t E)) (hw : WpX t N.length R) :
    FnOk P w K mg base (L2.CX P w) (k + 1) f fd ps (spX n R) := by
  subst hn
  refine F.okX SC (fun vs H Q E h => ?_) (fun cdv A outer s H vs Q E hr h => ?_)
  · obtain ⟨G, args, Φ, Ψ, hl, h1, h2, h3, h4, h5⟩ := h
    rw [← h2.length]
    exact hl
  · obtain ⟨G, args, Φ, Ψ, hl, h1, h2, h3, h4, h5⟩ := h
    exact ⟨t E, hbody cdv A outer s H E hr, hw ⟨H, G, []⟩ Q E args Φ Ψ h3 h4 h5 G H _ (envOk_start h1 h2 (by rw [hl]; exact hps))⟩
/-- a call where an exception is taken -/
theorem pe_dS {X : Cx} {k j : Nat} {x : Str} {ps : List Str} {sp : Sp} {p pos : Pos} {e : Expr} {es : List Expr} {t : TA} {W : WX} (d : DfX X.prog X.w X.K X.mg X.base k x ps sp) (hr : Room j X.A) (hkj : k ≤ j) (hg : Gl X x) (tk : Takes X W) (ha : PA X (e :: es) t)
    (hdb : (x == ("__debug__" : Str)) = false := by decide) (he : starEach (e :: es) X.env = (false, eval e X.env) :: starEach es X.env := by rfl) (hpl : (backTo pos (starEach es X.env)).any (·.1) = false := by rfl) :
    PE X (.Call (.Name x p) (e :: es) [] pos) (tCallS sp (WE W) t) := by
  obtain ⟨f, fd, h, hm, hk, hb⟩ := d.ex
  exact pe_callS h (hr.mono hkj) hg hm hk hb (fun σ => passAt tk σ) ha hdb he hpl
/-- a call where none comes -/
theorem pe_dN {X : Cx} {k j : Nat} {x : Str} {ps : List Str} {sp : Sp} {p pos : Pos} {e : Expr} {es : List Expr} {t : TA} (d : DfX X.prog X.w X.K X.mg X.base k x ps sp) (hr : Room j X.A) (hkj : k ≤ j) (hg : Gl X x) (ha : PA X (e :: es) t)
    (hdb : (x == ("__debug__" : Str)) = false := by decide) (he : starEach (e :: es) X.env = (false, eval e X.env) :: starEach es X.env := by rfl) (hpl : (backTo pos (starEach es X.env)).any (·.1) = false := by rfl) :
    PE X (.Call (.Name x p) (e :: es) [] pos) (tCall sp [] E0 t) := by
  obtain ⟨f, fd, h, hm, hk, hb⟩ := d.ex
  exact pe_call h (hr.mono hkj) hg hm hk hb .nil passL ha hdb he hpl
end
section
variable {B : Bs} {env : List Sl} {P : Dt → Prop} {m : Bool} {D : Ends}
theorem ev_callN {n : Nat} {R : RdX} {X : XK} {t : TA} (h : Ea B true t env fun ds => ds.length = n ∧ R ds P (fun _ _ => False)) : Ev B m (tCall (spX n R) [] X t) env P := ev_weak fun F H σ E Q q => h F H σ E _ fun ds vs F1 H1 h1 E1 g1 r1 => by
  rw [List.append_nil]
  exact ⟨F1, ds, P, _, h1.1, E1.fh, r1, h1.2, fun d v G' H' hp e1 e2 e3 e4 r => q d v G' H' hp (E1.gr ⟨e1, e4, e2⟩ e3) (g1.trans ⟨e1, e4, e2⟩) r, fun _ _ _ _ z => z.elim⟩
theorem ev_callS {n : Nat} {R : RdX} {W : WX} {t : TA} (h : Ea B true t env fun ds => ds.length = n ∧ R ds P (fun C x => Wx B env W C x)) : Ev B m (tCallS (spX n R) (WE W) t) env P := ev_weak fun F H σ E Q q => h F H σ E _ fun ds vs F1 H1 h1 E1 g1 r1 =>
  ⟨F1, ds, P, _, h1.1, E1.fh, r1, h1.2, fun d v G' H' hp e1 e2 e3 e4 r => q d v G' H' hp (E1.gr ⟨e1, e4, e2⟩ e3) (g1.trans ⟨e1, e4, e2⟩) r, fun C x dx H' w e1 e2 e3 =>
    w F1 H' σ dx (E1.gr (Gr.hOnly e1) (E1.fh.trans e1)) (E1.hh.back e2) (E1.fh.back e2) e3⟩
/-! ### raise C(..) -/
/-- C's __init__: it stores the word, told with what stands ahead of it -/
def spExc (K : PySem.W.Frag) (C : Addr) : Sp := fun vs H Q _ => ∃ (a : Addr) (x : List Nat), vs = [.ref a, .str (S x)] ∧ x.length ≤ 1000 ∧ OexC K C ∧ PySem.W.findIn K (.ref C) "what" = some none ∧ H a = some (exo a C none) ∧
  ∀ dx, H dx = none → dx ≠ a → Q .non (upd (upd H dx (exd dx [(("what" : Str), V.str (S x))])) a (exo a C (some dx)))
/-- what is written of a class whose instances are raised -/
structure XC (K : PySem.W.Frag) (C : Addr) : Prop where
  oex : OexC K C
  now : PySem.W.findIn K (.ref C) "what" = some none
  xf : XfC K C
def tRaise (K : PySem.W.Frag) (W : WX) (C : Addr) (ta : TA) : TS := fun _ σ H => tMkO C (spExc K C) [] ta σ H fun cls d H' => W cls d σ H'
theorem wp_raise {K : PySem.W.Frag} {W : WX} {C : Addr} {ta : TA} (T : XC K C) (h : Ea B true ta env fun ds => ∃ x, ds = [.str x] ∧ x.length ≤ 1000 ∧ Wx B env W C x) : Wp B (tRaise K W C ta) env D := fun F H σ E =>
  h F H σ E _ fun ds vs F1 H1 h1 E1 g1 r1 => by
    obtain ⟨x, rfl, hl, hw⟩ := h1
    obtain ⟨v, r, rfl, h3, h4⟩ := RpAll.cons_iff.mp r1
    rw [RpAll.nil_iff.mp h4, Rp.str_iff.mp h3]
    refine ⟨by simp, fun a ha => ⟨a, x, by simp, hl, T.oex, T.now, upd_same, fun dx hdx hne => ⟨rfl, dx, _, upd_same, by rw [upd_ne hne, upd_same], ?_, ?_⟩⟩⟩
    · rw [upd_ne hne] at hdx
      exact hdx
    · rw [upd_ne hne] at hdx
      have ex : Ex H1 (upd (del (upd (upd (upd H1 a (exo a C none)) dx (exd dx [(("what" : Str), V.str (S x))])) a (exo a C (some dx))) a) dx (.xd [(("what" : Str), V.str (S x))])) := fun b o hb => by
        have h1 : b ≠ dx := fun z => by rw [z, hdx] at hb; cases hb
        have h2 : b ≠ a := fun z => by rw [z, ha] at hb; cases hb
        rw [upd_ne h1, del_ne h2, upd_ne h2, upd_ne h1, upd_ne h2]
        exact hb
      refine hw F1 _ σ dx (E1.gr (Gr.hOnly ex) (E1.fh.trans ex)) (E1.hh.back hdx) (E1.fh.back hdx) upd_same
/-! ### try .. except C as n: .. -/
def tTry (K : PySem.W.Frag) (tb : WX → TS) (l : List Clause) : TS := fun D σ H => tb (wClauses K (fun _ _ _ _ => False) D l) D σ H
theorem wp_try {K : PySem.W.Frag} {tb : WX → TS} {l : List Clause} (h : Wp B (tb (wClauses K (fun _ _ _ _ => False) D l)) env D) : Wp B (tTry K tb l) env D := h
theorem wx_skip {K : PySem.W.Frag} {W0 : WX} {C : Addr} {x : List Nat} {c : Value} {i : Nat} {s : Addr → Value → Option Addr → TS} {l : List Clause} (hf : PySem.W.exmOne K (.ref C) c = some false) (h : Wx B env (wClauses K W0 D l) C x) : Wx B env (wClauses K W0 D ((c, i, s) :: l)) C x :=
  fun F H σ dx E h0 h1 h2 => ⟨false, hf, (fun z => by cases z), fun _ => h F H σ dx E h0 h1 h2⟩
theorem wx_take {K : PySem.W.Frag} {W0 : WX} {C : Addr} {x : List Nat} {c : Value} {i : Nat} {s : Addr → Value → Option Addr → TS} {l : List Clause} (hf : PySem.W.exmOne K (.ref C) c = some true)
    (h : ∀ (a dx : Addr) (G : Hp), G dx = some (xdO x) → Wp (B.push G) (s a (.ref C) (some dx)) (env.set i (.dat (.raw a))) (goneD i D)) : Wx B env (wClauses K W0 D ((c, i, s) :: l)) C x :=
  fun F H σ dx E h0 h1 h2 => ⟨true, hf, fun _ a ha => by
    have E1 := E.freezeP h0 h1 h2 fun j ys hy hs => by
      obtain ⟨p, vs, q1, q2, q3, q4, q5⟩ := E.own hy
      rw [hs] at q1
      cases q1
      rw [h2] at q4
      cases q4
    have hG : Ex (fun b => if b = dx then some (xdO x) else none) (upd F dx (xdO x)) := fun b o hb => by
      by_cases e : b = dx
      · subst e
        have hb' : some (xdO x) = some o := by rw [← hb]; exact (if_pos rfl).symm
        rw [upd_same]
        exact hb'
      · exact absurd (show none = some o by rw [← hb]; exact (if_neg e).symm) (by simp)
    have E2 := (E1.push hG).setDat (i := i) (d := .raw a) (v := .ref a) (Rp.raw_iff.mpr rfl)
    exact h a dx _ (if_pos rfl) _ H _ E2, (fun z => by cases z)⟩
/-- error.what -/
theorem ev_what {G : Hp} {a C dx : Addr} {x : List Nat} {i : Nat} (hG : G dx = some (xdO x)) (hi : env[i]? = some (.dat (.raw a))) (hp : P (.str x)) : Ev (B.push G) m (tXf a (.ref C) (some dx) C "what" (tVar i)) env P := fun F H σ E Q q => by
  obtain ⟨v, h1, h2⟩ := E.dat hi
  rw [Rp.raw_iff.mp h2] at h1
  have hF := E.gho G List.mem_cons_self _ _ hG
  exact ⟨_, h1, rfl, rfl, dx, _, _, rfl, E.fh _ _ hF, by simp [List.lookup], q _ _ F H hp E (Gr.refl F H) (Rp.str_iff.mpr rfl)⟩
end
/-! ### C.__init__ -/
section
variable {P : Program} {w : World} {K : PySem.W.Frag} {mg : Str → Option Value} {base : Heap}
/-- L.__init__(self, told + what); self.what = what -/
def tExc (K : PySem.W.Frag) (told : Str) : TS := tSeq (tDrop (tVeI K (tCons (tVar 0) (tCons (tOp rAddS (tC (.str told)) (tVar 1)) tNil)))) (tOst K "what" (tVar 0) (tVar 1))
theorem okExc {f C : Addr} {fd : FuncData} {qual told : Str} {st : Stmt} (F : Fun K "__init__" qual st f fd) (SC : FnScope ["self", "what"] ["self", "what"] (defScope st)) (ht : told.length ≤ 1000)
    (hbody : ∀ (cdv : Value) (A : Around) (outer : List Env) (s : Shared) (H : Hp) (E : XK), Room 0 (A.deeper (envOfC qual (defScope st) s.heap.objs.size f cdv)) →
      PSs (cxOf CX0 P w K mg base ["self", "what"] qual (defScope st) f cdv A outer s H E).nox (defBody st) (tExc K told)) : FnOk P w K mg base CX0 1 f fd ["self", "what"] (spExc K C) := by
  refine F.ok SC (fun vs H Q E h => ?_) (fun cdv A outer s H vs Q E hr h => ?_)
  · obtain ⟨a, x, rfl, _⟩ := h
    rfl
  · obtain ⟨a, x, rfl, hl, ho, hn, hH, hq⟩ := h
    refine ⟨_, hbody cdv A outer s H E hr, ?_⟩
    refine ⟨.ref a, rfl, .str (S x), rfl, ?_⟩
    refine ⟨_, _, rfl, rfl, sz1 (by rw [S_len]; omega), a, C, [_], rfl, by simp, ho, hH, ?_⟩
    exact ⟨.str (S x), rfl, .ref a, rfl, a, C, rfl, ho, hn, .inl ⟨hH, hq⟩⟩
end
end DL

set_option Elab.async false
set_option linter.all false
set_option maxRecDepth 100000
set_option maxHeartbeats 4000000
set_option autoImplicit false
/-! DX3: raise, and the classes raised, ready to be used -/
namespace DL
open PySem PySem.Spec PyProof.Rows L2 DX
structure Xd (P : Program) (w : World) (K : PySem.W.Frag) (mg : Str → Option Value) (base : Heap) (x : Str) (C : Addr) : Prop where
  xc : XC K C
  at_ : mg x = some (.ref C)
  init : ∃ (fI : Addr) (fd : FuncData), PySem.W.findIn K (.ref C) "__init__" = some (some (.ref fI)) ∧ PySem.W.typeIn K (.ref fI) = some (.type "function") ∧ FnOk P w K mg base CX0 1 fI fd ["self", "what"] (spExc K C) ∧ Binds K fd ["self", "what"] []
theorem ps_raiseX {X : Cx} {W : WX} {x : Str} {C : Addr} {k : Nat} {a : Expr} {ta : TA} {p pos pos2 : Pos} (xd : Xd X.prog X.w X.K X.mg X.base x C) (hc : X.calm = true) (hr : Room k X.A) (hk : 2 ≤ k) (tk : Takes X W) (hg : Gl X x) (ha : PA X [a] ta)
    (hdb : (x == ("__debug__" : Str)) = false := by decide) (he : starEach (a :: []) X.env = (false, eval a X.env) :: starEach [] X.env := by rfl) (hpl : (backTo pos (starEach [] X.env)).any (·.1) = false := by rfl) :
    PS X (.Raise (some (.Call (.Name x p) [a] [] pos)) none pos2) (tRaise X.K W C ta) := by
  obtain ⟨fI, fd, h1, h2, h3, h4⟩ := xd.init
  exact ps_raise hc tk (pmk_oex xd.xc.oex h1 h2 h3 (hr.mono hk) h4 .nil pass0 hg xd.at_ ha hdb he hpl)
/-- an error of S's class is (not) what «except T» names -/
theorem exm_of {K : PySem.W.Frag} {S T : Addr} {b : Bool} (h1 : PySem.W.subIn K (.ref T) (.type "BaseException") = some true) (h2 : PySem.W.isClsIn K T = true) (h3 : PySem.W.typeIn K (.ref T) = some (.type "type")) (h4 : PySem.W.subIn K (.ref S) (.ref T) = some b) : PySem.W.exmOne K (.ref S) (.ref T) = some b := by
  have e1 : (PySem.W.subIn K (.ref T) (.type "BaseException") == some true) = true := by rw [h1]; rfl
  have e2 : ((PySem.W.clsIn K T).isSome && PySem.W.typeIn K (.ref T) == some (.type "type")) = true := by
    have h2' : (PySem.W.clsIn K T).isSome = true := h2
    rw [h2', h3]; rfl
  show (if (PySem.W.subIn K (.ref T) (.type "BaseException") == some true) = true then (if ((PySem.W.clsIn K T).isSome && PySem.W.typeIn K (.ref T) == some (.type "type")) = true then PySem.W.subIn K (.ref S) (.ref T) else Option.none) else Option.none) = some b
  rw [if_pos e1, if_pos e2, h4]
end DL

set_option Elab.async false
set_option linter.all false
set_option maxRecDepth 100000
set_option maxHeartbeats 4000000
/-! SG: sets of ints or of texts made of an iterable, at the model's own exactness, and sorted -/
namespace SG
open PySem PySem.Spec PyProof.Rows L2
section
variable {P : Program} {w : World} {T : Type} [DecidableEq T] {knd : KeyKind P w T} {A : Around} {E : Value → Shared → Prop} {s : Shared} {h h' : Heap} {a : Addr} {S : T → Bool} {n : Nat}
/-- two entries have no key in common -/
def Apart (knd : KeyKind P w T) (e f : Int × Value) : Prop := ∀ k, knd.is k e.2 = true → knd.is k f.2 = false
theorem Apart.comm {e f : Int × Value} (x : Apart knd e f) : Apart knd f e := fun k hk => by
  cases q : knd.is k e.2 with
  | false => rfl
  | true => rw [x k q] at hk; cases hk
/-- the set at a: its members, its size; its table can be walked -/
structure SetG (knd : KeyKind P w T) (h : Heap) (a : Addr) (S : T → Bool) (n : Nat) : Prop where
  ex : ∃ o es ep t, h.get? a = some o ∧ o.ExactSet ∧ o.data = .set es ep t ∧ ElemsOf knd es.toList ∧ es.toList.Pairwise (Apart knd) ∧ (∀ k, S k = true ↔ ∃ e ∈ es.toList, knd.is k e.2 = true) ∧
    es.size < scanBound ∧ t.fits es.size = true ∧ es.size = n ∧ Ris t.place.toList ∧ (w.params.followText "set-order" = true ∨ t.led = true)
theorem SetG.at (R : SetG knd h a S n) (k : ∀ o, h.get? a = some o → h'.get? a = some o) : SetG knd h' a S n := by
  obtain ⟨o, es, ep, t, ho, r⟩ := R.ex
  exact ⟨o, es, ep, t, k o ho, r⟩
theorem SetG.congr {S' : T → Bool} {n' : Nat} (R : SetG knd h a S n) (e : ∀ k, S' k = S k) (en : n' = n) : SetG knd h a S' n' := by
  have q : S' = S := funext e
  rw [q, en]
  exact R
/-- what is behind the laying of a new entry -/
theorem laid_tail {g : Bool → Sem Unit} (hg : ∀ (b : Bool) (s₁ : Shared) (Q' : Unit → Shared → Prop), Q' () s₁ → wpAny (model P w) A (g b) Q' E s₁)
    {o : Obj} {es : Array (Int × Value)} {ep : Nat} {t : SetTable} (ho : s.heap.get? a = some o) (hex : o.ExactSet) (hd : o.data = .set es ep t)
    {es1 : Array (Int × Value)} {t2 : SetTable} {S' : T → Bool} (el : ElemsOf knd es1.toList) (ap : es1.toList.Pairwise (Apart knd)) (mem : ∀ k, S' k = true ↔ ∃ e ∈ es1.toList, knd.is k e.2 = true)
    (hb1 : es1.size < scanBound) (hf2 : t2.fits es1.size = true) (hr : Ris t2.place.toList) (hl : w.params.followText "set-order" = true ∨ t2.led = true) {wasDummy : Bool} {R : Option Bool → Shared → Prop}
    (hR : ∀ h', Heap.SameBut a s.heap h' → SetG knd h' a S' es1.size → R (some true) { s with heap := h' }) :
    wpAny (model P w) A (do
        storeSet a es1 t2
        if (!wasDummy && t2.tooFull) = true then do
            g (relayAll t2 es1 (SetTable.grown es1.size)).2.2
            storeSet a (relayAll t2 es1 (SetTable.grown es1.size)).1 (relayAll t2 es1 (SetTable.grown es1.size)).2.1
            pure (some true)
          else pure (some true)) R E s := by
  refine wpAny_bind (wpAny_storeSet_of ho hd ?_ (fits_of_scanBound hb1))
  have at1 := store_at (es' := es1) (t' := t2) ho hd
  have same1 := Heap.SameBut.update s.heap a (Obj.putSet es1 t2)
  split
  case isFalse => exact wpAny_pure (hR _ same1 ⟨_, es1, _, t2, at1, hex, rfl, el, ap, mem, hb1, hf2, rfl, hr, hl⟩)
  case isTrue =>
    have perm := relayAll_perm t2 es1 (SetTable.grown es1.size)
    have fit3 := relayAll_fits t2 es1 (SetTable.grown es1.size)
    have ris3 := relayAll_ris t2 es1 (SetTable.grown es1.size)
    have led3 := relayAll_led t2 es1 (SetTable.grown es1.size)
    generalize relayAll t2 es1 (SetTable.grown es1.size) = Z at perm fit3 ris3 led3 ⊢
    obtain ⟨es2, t3, gave⟩ := Z
    dsimp only at perm fit3 ris3 led3 ⊢
    have size2 : es2.size = es1.size := by rw [← Array.length_toList, perm.length_eq, Array.length_toList]
    refine wpAny_bind (hg _ _ _ ?_)
    refine wpAny_bind (wpAny_storeSet_of at1 rfl ?_ (fits_of_scanBound (by rw [size2]; exact hb1)))
    have at2 := store_at (es' := es2) (t' := t3) at1 rfl
    refine wpAny_pure (hR _ (same1.trans (Heap.SameBut.update _ a _)) ⟨_, es2, _, t3, at2, hex, rfl, fun e he => el e (perm.mem_iff.mp he), perm.symm.pairwise ap Apart.comm, fun k => (mem k).trans ?_, by rw [size2]; exact hb1, fit3, size2, ris3, hl.imp id fun z => by rw [led3]; exact z⟩)
    exact ⟨fun ⟨e, he, q⟩ => ⟨e, perm.mem_iff.mpr he, q⟩, fun ⟨e, he, q⟩ => ⟨e, perm.mem_iff.mp he, q⟩⟩
/-- one more -/
theorem SetG.add {k : T} {x : Value} {Q : Bool → Shared → Prop} (hkey : knd.is k x = true) (hsc : x.scannable = true) (R : SetG knd s.heap a S n) (room : n + 1 < scanBound)
    (hQ : ∀ h', Heap.SameBut a s.heap h' → SetG knd h' a (fun j => S j || decide (j = k)) (if S k = true then n else n + 1) → Q (!S k) { s with heap := h' }) :
    wpAny (model P w) A (setAddHashed a x (knd.hash k)) Q E s := by
  obtain ⟨o, es, ep, t, ho, hex, hd, el, ap, mem, hb, hf, hn, hr, hl⟩ := R.ex
  unfold setAddHashed setAddHashedIn
  refine wpAny_holding (wpAny_bind (wpAny_setState_of ho hd hf ?_))
  dsimp only
  rw [byScan_of hsc hb el]
  simp only [↓reduceIte]
  unfold setAddByScan
  refine wpAny_bind ?_
  refine wpAny_bind (wpAny_rule ?_)
  refine wpAny_bind (wpAny_setScan_of hkey ho hd hf el ?_)
  cases hfi : List.findIdx? (fun e => knd.is k e.2) es.toList with
  | some j =>
    dsimp only
    obtain ⟨hj, pj, _⟩ := List.findIdx?_eq_some_iff_getElem.mp hfi
    have hSk : S k = true := (mem k).2 ⟨es.toList[j], List.getElem_mem hj, pj⟩
    refine wpAny_pure (wpAny_pure ?_)
    have q := hQ s.heap (Heap.SameBut.refl a s.heap) ⟨o, es, ep, t, ho, hex, hd, el, ap, fun i => by
      rw [Bool.or_eq_true, decide_eq_true_eq, ← mem i]
      exact ⟨fun z => z.elim id (fun e => e ▸ hSk), .inl⟩, hb, hf, by rw [if_pos hSk]; exact hn, hr, hl⟩
    rw [hSk] at q
    exact q
  | none =>
    dsimp only
    have none_is : ∀ e ∈ es.toList, knd.is k e.2 = false := fun e he => by
      have c := List.findIdx?_eq_none_iff.mp hfi e he
      simpa using c
    have hSk : S k = false := by
      cases q : S k with
      | false => rfl
      | true =>
        obtain ⟨e, he, z⟩ := (mem k).1 q
        rw [none_is e he] at z
        cases z
    have gaveway : ∀ (b : Bool) {s₁ : Shared} {Q' : Unit → Shared → Prop}, Q' () s₁ → wpAny (model P w) A (match b with | true => rule "set.scan.the-table-gave-way" | false => pure ()) Q' E s₁ := by
      intro b s₁ Q' q
      cases b <;> first | exact wpAny_pure q | exact wpAny_rule q
    have perm := layNew_perm t es (knd.hash k) x
    have fit1 := layNew_fits t es (knd.hash k) x
    have ris1 := layNew_ris t es (knd.hash k) x hr
    have led1 := layNew_led t es (knd.hash k) x
    generalize layNew t es (knd.hash k) x = Z at perm fit1 ris1 led1 ⊢
    obtain ⟨es1, t1, wasDummy, gave⟩ := Z
    dsimp only at perm fit1 ris1 led1 ⊢
    rw [Array.toList_push] at perm
    have pc : es1.toList.Perm ((knd.hash k, x) :: es.toList) := perm.trans (List.perm_append_singleton _ _)
    have el1 : ElemsOf knd es1.toList := fun e he => by
      rcases List.mem_cons.mp (pc.mem_iff.mp he) with z | z
      · rw [z]; exact ⟨⟨k, hkey, rfl⟩, hsc⟩
      · exact el e z
    have ap1 : es1.toList.Pairwise (Apart knd) := pc.symm.pairwise (List.pairwise_cons.mpr ⟨fun f hf' i hi => by
      have ik : i = k := by
        have := KeyKind.is_eq_decide hkey i
        have hi' : knd.is i x = true := hi
        rw [hi'] at this
        exact of_decide_eq_true this.symm
      rw [ik]
      exact none_is f hf', ap⟩) Apart.comm
    have mem1 : ∀ i, (S i || decide (i = k)) = true ↔ ∃ e ∈ es1.toList, knd.is i e.2 = true := fun i => by
      rw [Bool.or_eq_true, decide_eq_true_eq, mem i]
      constructor
      · rintro (⟨e, he, q⟩ | rfl)
        · exact ⟨e, pc.mem_iff.mpr (List.mem_cons_of_mem _ he), q⟩
        · exact ⟨_, pc.mem_iff.mpr List.mem_cons_self, hkey⟩
      · rintro ⟨e, he, q⟩
        rcases List.mem_cons.mp (pc.mem_iff.mp he) with rfl | z
        · refine .inr ?_
          have := KeyKind.is_eq_decide hkey i
          have q' : knd.is i x = true := q
          rw [q'] at this
          exact of_decide_eq_true this.symm
        · exact .inl ⟨e, z, q⟩
    have size1 : es1.size = n + 1 := by rw [← Array.length_toList, pc.length_eq, List.length_cons, Array.length_toList, hn]
    have hb1 : es1.size < scanBound := by rw [size1]; exact room
    have hled : w.params.followText "set-order" = true ∨ t1.led = true := hl.imp id fun z => by rw [led1]; exact z
    have fin : ∀ h', Heap.SameBut a s.heap h' → SetG knd h' a (fun j => S j || decide (j = k)) es1.size → Q true { s with heap := h' } := fun h' sb r => by
      have q := hQ h' sb
      rw [hSk] at q
      rw [size1] at r
      exact q r
    refine wpAny_bind (gaveway _ ?_)
    split
    · refine wpAny_bind ?_
      rw [hashByValue_scannable 8 hsc]
      refine wpAny_pure ?_
      refine laid_tail ?_ ho hex hd el1 ap1 mem1 hb1 ?_ ?_ ?_ ?_
      · intro b s₁ Q' q; cases b <;> first | exact wpAny_pure q | exact wpAny_rule q
      · first | (split <;> first | exact fit1 | exact SetTable.fits_plain_off fit1) | exact fit1
      · first | (split <;> exact ris1) | exact ris1
      · first | (split <;> exact hled) | exact hled
      · intro h' sb r; dsimp only; exact wpAny_pure (fin h' sb r)
    · refine wpAny_bind (wpAny_pure ?_)
      simp only [↓reduceIte]
      refine laid_tail ?_ ho hex hd el1 ap1 mem1 hb1 fit1 ris1 hled ?_
      · intro b s₁ Q' q; cases b <;> first | exact wpAny_pure q | exact wpAny_rule q
      · intro h' sb r; dsimp only; exact wpAny_pure (fin h' sb r)
end
end SG

set_option Elab.async false
set_option linter.all false
set_option maxRecDepth 100000
set_option maxHeartbeats 8000000
/-! SG2: set(x), x a list, a tuple or a text -/
namespace SG
open PySem PySem.Spec PyProof.Rows L2
section
variable {P : Program} {w : World} {T : Type} [DecidableEq T] {knd : KeyKind P w T}
/-- k is among the first i keys -/
def among (keys : Nat → T) (i : Nat) (k : T) : Bool := (List.range i).any fun j => decide (k = keys j)
/-- how many there are -/
def many (keys : Nat → T) : Nat → Nat
  | 0 => 0
  | i + 1 => if among keys i (keys i) = true then many keys i else many keys i + 1
theorem many_le (keys : Nat → T) : ∀ i, many keys i ≤ i
  | 0 => Nat.le_refl _
  | i + 1 => by
    have := many_le keys i
    unfold many
    split <;> omega
theorem among_succ (keys : Nat → T) (i : Nat) (k : T) : among keys (i + 1) k = (among keys i k || decide (k = keys i)) := by
  unfold among
  rw [List.range_succ, List.any_append]
  simp
variable {A : Around} {R : Result → Shared → Prop} {I : Addr} {fp wr : List Addr} {G : Array GenState → Array GenState → Prop} {n : Nat} {Pv : Nat → Value → Prop} {St : Nat → Shared → Prop}
theorem loopG (W : WalksS P w A.in1 I fp wr G n Pv St) (S : Addr) (hSf : S ∉ fp) (keys : Nat → T) (hval : ∀ i v, Pv i v → knd.is (keys i) v = true ∧ v.scannable = true) (hb : n + 1 < scanBound) :
    ∀ (k i : Nat) (s : Shared), n - i = k → i ≤ n → St i s → SetG knd s.heap S (among keys i) (many keys i) →
      (∀ s', Moved (S :: wr) G s s' → SetG knd s'.heap S (among keys n) (many keys n) → R (.ok (.ret .none)) s') →
      codeAny (model P w) A (.builtin "set.update.loop" ⟨[.ref S, .ref I], []⟩) R s := by
  have hSw : S ∉ wr := fun h => hSf (W.sub _ h)
  have wider : ∀ b ∈ wr, b ∈ S :: wr := fun b hb => List.mem_cons_of_mem _ hb
  intro k
  induction k with
  | zero =>
    intro i s hk hi hst hS hR
    obtain rfl : i = n := by omega
    refine codeAny_builtin PyProof.Rows.F.entry_set_update_loop ?_
    rw [Around.under_plainId PyProof.Rows.F.plain_set_update_loop _]
    show wpAny _ A.in1 (pyNext (.ref I) >>= _) _ _ s
    refine wpAny_bind (W.done s _ _ hst fun s' hm => ?_)
    show wpAny _ A.in1 (ret Value.none) _ _ s'
    exact wpAny_pure (hR s' (hm.mono wider) (hS.at fun o ho => hm.heap S _ hSw ho))
  | succ k ih =>
    intro i s hk hi hst hS hR
    have hlt : i < n := by omega
    refine codeAny_builtin PyProof.Rows.F.entry_set_update_loop ?_
    rw [Around.under_plainId PyProof.Rows.F.plain_set_update_loop _]
    show wpAny _ A.in1 (pyNext (.ref I) >>= _) _ _ s
    refine wpAny_bind (W.item i s _ _ hlt hst fun v s' hP hst' hm => ?_)
    obtain ⟨key, scan⟩ := hval i v hP
    have hS' : SetG knd s'.heap S (among keys i) (many keys i) := hS.at fun o ho => hm.heap S _ hSw ho
    show wpAny _ A.in1 (holding [v] (setAdd S v) >>= _) _ _ s'
    refine wpAny_bind (wpAny_holding ?_)
    unfold setAdd
    refine wpAny_holding ?_
    refine wpAny_bind (knd.pyHash (k := keys i) key ?_)
    have room : many keys i + 1 < scanBound := by have := many_le keys i; omega
    refine SetG.add (s := { s' with toks := s'.toks + 1 }) key scan hS' room fun h' hsb hS2 => ?_
    have hSi : SetG knd h' S (among keys (i + 1)) (many keys (i + 1)) := hS2.congr (fun k' => among_succ keys i k') (by rw [many])
    refine wpAny_pure ⟨plainId_quiet PyProof.Rows.F.plain_set_update_loop _, ih (i + 1) _ (by omega) hlt (W.frame _ s' _ _ hst' (Nat.le_succ _) fun b hb o e => ?_) hSi fun s'' hm'' hS'' => ?_⟩
    · rw [hsb.2 b (fun h : b = S => hSf (by rw [← h]; exact hb))]
      exact e
    · refine hR s'' (Moved.trans W.gtrans ((hm.mono wider).then_heap (Nat.le_succ _) fun b o hb e => ?_) hm'') hS''
      rw [hsb.2 b (fun h : b = S => hb (by rw [h]; exact List.mem_cons_self))]
      exact e
end
section
variable {P : Program} {w : World} {T : Type} [DecidableEq T] {knd : KeyKind P w T} {A : Around} {E : Value → Shared → Prop} {s : Shared}
def freshSet (led : Bool) : Obj := { cls := .type "set", dict := none, data := .set #[] 0 (.fresh 0 0 led) }
theorem fresh_setG (s : Shared) (led : Bool) (hl : w.params.followText "set-order" = true ∨ led = true) (keys : Nat → T) : SetG knd (s.heap.push (freshSet led)) s.heap.objs.size (among keys 0) (many keys 0) :=
  ⟨_, #[], 0, _, Heap.get?_push_size _ rfl, ⟨rfl, rfl, rfl⟩, rfl, (fun e he => by simp at he), (by simp), (fun k => by simp [among]), (by decide), (by rfl), rfl, List.Pairwise.nil, hl⟩
theorem new_set1 (a : Value) {Q₁ : Value → Shared → Prop} (h : Q₁ (.ref s.heap.objs.size) { s with heap := s.heap.push (freshSet (!w.params.followText "set-order")) }) :
    codeAny (model P w) A (.call (.builtin "set.__new__") ⟨[.type "set", a], []⟩) (wants Q₁ E) s := by
  apply codeAny_of_tree
  show wpAny _ A.in1 (do checkBuiltinCall "set.__new__" ⟨[.type "set", a], []⟩; again (.builtin "set.__new__" ⟨[.type "set", a], []⟩)) _ _ s
  refine wpAny_bind (wpAny_of_eq (PySem.F.newCall_set_1 a) (wpAny_pure ⟨plainId_quiet PySem.F.plain_set_new _, codeAny_builtin PySem.F.entry_set_new ?_⟩))
  rw [Around.under_plainId PySem.F.plain_set_new _]
  unfold Builtin.«set.__new__» Builtin.Frozenset.newClass
  have self_sub := sub_set_self
  obtain ⟨hp, g, d, tk, os⟩ := s
  dsimp only
  wp_walk
  refine wpAny_askSetting (wpAny_pure ?_)
  dsimp only
  simp only [newObj]
  exact wpAny_bind (wpAny_alloc (wpAny_pure (wpAny_pure h)))
theorem led_ok : w.params.followText "set-order" = true ∨ (!w.params.followText "set-order") = true := by
  cases w.params.followText "set-order"
  · exact .inr rfl
  · exact .inl rfl
/-- set(l) of a list whose items are the keys -/
theorem set_of_list {l : Addr} {items : Array Value} {keys : Nat → T} {Q : Value → Shared → Prop} (hh : A.handled = none) (hl : s.heap.IsList l items)
    (hval : ∀ i v, items[i]? = some v → knd.is (keys i) v = true ∧ v.scannable = true) (few : items.size + 1 < scanBound)
    (h : ∀ (h' : Heap) (tk : Nat), SetG knd h' s.heap.objs.size (among keys items.size) (many keys items.size) → (∀ b o, b < s.heap.objs.size → s.heap.get? b = some o → h'.get? b = some o) → Q (.ref s.heap.objs.size) { s with heap := h', toks := tk }) :
    wpAny (model P w) A (call (.type "set") [.ref l]) Q E s := by
  obtain ⟨c, tl, hmro⟩ := PySem.F.called_set.mro
  have made := PySem.F.called_set.made
  have subs := PySem.F.called_set.sub
  refine wpAny_call (codeAny_of_tree ?_)
  show wpAny _ _ (callAny (.type "set") _) _ _ _
  refine wpAny_pure ⟨Code.quiet_builtin _ (by decide +kernel), codeAny_builtin PySem.F.entry_type_call ?_⟩
  rw [Around.under_plain (weight_type_call_type "set" [.ref l] []) rfl]
  have c1 := PySem.F.called_set.notType
  have c2 := PySem.F.called_set.canCreate
  have c3 := PySem.F.typeCall_set_1 (.ref l)
  repeat (any_goals (first | assumption | wp_step))
  refine codeAny_mono (new_set1 (.ref l) (E := E) (Q₁ := fun obj s₁ => obj = .ref s.heap.objs.size ∧ s₁ = { s with heap := s.heap.push (freshSet (!w.params.followText "set-order")) }) ⟨rfl, rfl⟩) fun r s₁ hr => ?_
  generalize hled : (!w.params.followText "set-order") = led at hr
  have okLed : w.params.followText "set-order" = true ∨ led = true := hled ▸ led_ok
  cases r with
  | error e => exact hr
  | ok fl =>
    cases fl with
    | ret obj =>
      obtain ⟨rfl, rfl⟩ := hr
      have hS : (s.heap.push (freshSet led)).get? s.heap.objs.size = some (freshSet led) := Heap.get?_push_size _ rfl
      have hT : Shared.TypeIs { s with heap := s.heap.push (freshSet led) } (.ref s.heap.objs.size) "set" := ⟨_, hS, rfl⟩
      have i1 := PySem.F.called_set.init.lookup
      have i2 := PySem.F.called_set.init.bind (.ref s.heap.objs.size)
      repeat (any_goals (first | assumption | wp_step))
      refine codeAny_mono (codeAny_call_builtin (R := wants (fun r s₂ => r = .none ∧ ∃ h' tk, s₂ = { s with heap := h', toks := tk } ∧ SetG knd h' s.heap.objs.size (among keys items.size) (many keys items.size) ∧
          (∀ b o, b < s.heap.objs.size → s.heap.get? b = some o → h'.get? b = some o)) E) PySem.F.called_set.init.plain PySem.F.entry_set_init (check_set_init_1 hT ?_)) fun r₂ s₂ hr₂ => ?_
      · obtain ⟨ol, hol, hcl, nl, hdl⟩ := hl
        obtain ⟨ocls, odict, odata, oslots⟩ := ol
        simp only at hcl hdl
        subst hcl; subst hdl
        have hol' : (s.heap.push (freshSet led)).get? l = some { cls := .type "list", dict := odict, data := .seq items nl, slots := oslots } := Heap.get?_push_of_some _ hol
        have t1 := PySem.F.sub_list_set
        have t2 := PySem.F.sub_list_frozenset
        have t3 : (Value.type "list" == Value.type "dict") = false := by decide
        have isl : (s.heap.push (freshSet led)).IsList l items := ⟨_, hol', rfl, nl, rfl⟩
        unfold Builtin.«set.__init__» noKeywords Builtin.Frozenset.updateFrom
        generalize hPI : pyIter = PI
        wp_walk
        subst hPI
        refine wpAny_pyIter_list isl ?_
        refine wpAny_bind (wpAny_runValue ?_)
        have lS : l < s.heap.objs.size := Heap.lt_size hol
        have hneI : l ≠ (s.heap.push (freshSet led)).objs.size := by rw [Heap.size_push]; exact Nat.ne_of_lt (Nat.lt_succ_of_lt lS)
        have hSf : s.heap.objs.size ∉ [(s.heap.push (freshSet led)).objs.size, l] := by
          rw [Heap.size_push]
          simp only [List.mem_cons, List.mem_singleton, List.not_mem_nil, or_false, not_or]
          exact ⟨Nat.ne_of_lt (Nat.lt_succ_self _), Nat.ne_of_gt lS⟩
        refine loopG (knd := knd) ((Walks.list (show A.in1.in1.in1.handled = none by simp [hh]) _ l hneI items).toS) s.heap.objs.size hSf keys hval few (items.size - 0) 0 _ (by omega) (Nat.zero_le _) ⟨⟨_, Heap.get?_push_size _ rfl, rfl, rfl⟩, (isl.push _)⟩ ?_ ?_
        · exact (fresh_setG s led okLed keys).at fun o ho => Heap.get?_push_of_some _ ho
        · intro s' hm hS'
          obtain ⟨h', g', d', tk', os'⟩ := s'
          have eg : g' = s.gens := hm.gens
          have ed : d' = s.drawn := hm.drawn
          have eo : os' = s.os := hm.os
          subst eg ed eo
          show wpAny _ _ _ _ _ _
          refine wpAny_pure ?_
          show wpAny _ _ (ret Value.none) _ _ _
          refine wpAny_pure ⟨rfl, h', tk', rfl, hS', fun b o hb e => ?_⟩
          refine hm.heap b o ?_ (Heap.get?_push_of_some _ (Heap.get?_push_of_some _ e))
          rw [Heap.size_push]
          simp only [List.mem_cons, List.mem_singleton, List.not_mem_nil, or_false, not_or]
          exact ⟨Nat.ne_of_lt hb, Nat.ne_of_lt (Nat.lt_succ_of_lt hb)⟩
      · cases r₂ with
        | error e => exact hr₂
        | ok fl₂ =>
          cases fl₂ with
          | ret r =>
            obtain ⟨rfl, h', tk, rfl, hS', hk'⟩ := hr₂
            repeat (any_goals (first | assumption | wp_step))
            exact h _ _ hS' hk'
          | _ => exact hr₂.elim
    | _ => exact hr.elim
end
end SG

set_option Elab.async false
set_option linter.all false
set_option maxRecDepth 100000
set_option maxHeartbeats 8000000
/-! SG2t: set(x), x a text -/
namespace SG
open PySem PySem.Spec PyProof.Rows L2
section
variable {P : Program} {w : World} {T : Type} [DecidableEq T] {knd : KeyKind P w T} {A : Around} {E : Value → Shared → Prop} {s : Shared}
/-- set(x) of a text: its signs -/
theorem set_of_text {x : Str} {tk0 : Tok} {keys : Nat → T} {Q : Value → Shared → Prop} (hh : A.handled = none)
    (hval : ∀ i v, SignAt x i v → knd.is (keys i) v = true ∧ v.scannable = true) (few : x.cps.size + 1 < scanBound)
    (h : ∀ (h' : Heap) (tk : Nat), SetG knd h' s.heap.objs.size (among keys x.cps.size) (many keys x.cps.size) → (∀ b o, b < s.heap.objs.size → s.heap.get? b = some o → h'.get? b = some o) → Q (.ref s.heap.objs.size) { s with heap := h', toks := tk }) :
    wpAny (model P w) A (call (.type "set") [.str x tk0]) Q E s := by
  obtain ⟨c, tl, hmro⟩ := PySem.F.called_set.mro
  have made := PySem.F.called_set.made
  have subs := PySem.F.called_set.sub
  refine wpAny_call (codeAny_of_tree ?_)
  show wpAny _ _ (callAny (.type "set") _) _ _ _
  refine wpAny_pure ⟨Code.quiet_builtin _ (by decide +kernel), codeAny_builtin PySem.F.entry_type_call ?_⟩
  rw [Around.under_plain (weight_type_call_type "set" [.str x tk0] []) rfl]
  have c1 := PySem.F.called_set.notType
  have c2 := PySem.F.called_set.canCreate
  have c3 := PySem.F.typeCall_set_1 (.str x tk0)
  repeat (any_goals (first | assumption | wp_step))
  refine codeAny_mono (new_set1 (.str x tk0) (E := E) (Q₁ := fun obj s₁ => obj = .ref s.heap.objs.size ∧ s₁ = { s with heap := s.heap.push (freshSet (!w.params.followText "set-order")) }) ⟨rfl, rfl⟩) fun r s₁ hr => ?_
  generalize hled : (!w.params.followText "set-order") = led at hr
  have okLed : w.params.followText "set-order" = true ∨ led = true := hled ▸ led_ok
  cases r with
  | error e => exact hr
  | ok fl =>
    cases fl with
    | ret obj =>
      obtain ⟨rfl, rfl⟩ := hr
      have hS : (s.heap.push (freshSet led)).get? s.heap.objs.size = some (freshSet led) := Heap.get?_push_size _ rfl
      have hT : Shared.TypeIs { s with heap := s.heap.push (freshSet led) } (.ref s.heap.objs.size) "set" := ⟨_, hS, rfl⟩
      have i1 := PySem.F.called_set.init.lookup
      have i2 := PySem.F.called_set.init.bind (.ref s.heap.objs.size)
      repeat (any_goals (first | assumption | wp_step))
      refine codeAny_mono (codeAny_call_builtin (R := wants (fun r s₂ => r = .none ∧ ∃ h' tk, s₂ = { s with heap := h', toks := tk } ∧ SetG knd h' s.heap.objs.size (among keys x.cps.size) (many keys x.cps.size) ∧
          (∀ b o, b < s.heap.objs.size → s.heap.get? b = some o → h'.get? b = some o)) E) PySem.F.called_set.init.plain PySem.F.entry_set_init (check_set_init_1 hT ?_)) fun r₂ s₂ hr₂ => ?_
      · have t1 := PySem.F.sub_str_set
        have t2 := PySem.F.sub_str_frozenset
        have t3 : (Value.type "str" == Value.type "dict") = false := by decide
        unfold Builtin.«set.__init__» noKeywords Builtin.Frozenset.updateFrom
        generalize hPI : pyIter = PI
        wp_walk
        subst hPI
        refine wpAny_pyIter_str fun o St hW hSt => ?_
        refine wpAny_bind (wpAny_runValue ?_)
        have hSf : s.heap.objs.size ∉ [(s.heap.push (freshSet led)).objs.size] := by
          rw [Heap.size_push]
          simp only [List.mem_singleton]
          exact Nat.ne_of_lt (Nat.lt_succ_self _)
        refine loopG (knd := knd) ((hW A.in1.in1.in1 (by simp [hh])).toS) s.heap.objs.size hSf keys hval few (x.cps.size - 0) 0 _ (by omega) (Nat.zero_le _) (by exact hSt) ?_ ?_
        · exact (fresh_setG s led okLed keys).at fun o ho => Heap.get?_push_of_some _ ho
        · intro s' hm hS'
          obtain ⟨h', g', d', tk', os'⟩ := s'
          have eg : g' = s.gens := hm.gens
          have ed : d' = s.drawn := hm.drawn
          have eo : os' = s.os := hm.os
          subst eg ed eo
          show wpAny _ _ _ _ _ _
          refine wpAny_pure ?_
          show wpAny _ _ (ret Value.none) _ _ _
          refine wpAny_pure ⟨rfl, h', tk', rfl, hS', fun b o hb e => ?_⟩
          refine hm.heap b o ?_ (Heap.get?_push_of_some _ (Heap.get?_push_of_some _ e))
          rw [Heap.size_push]
          simp only [List.mem_cons, List.mem_singleton, List.not_mem_nil, or_false, not_or]
          exact ⟨Nat.ne_of_lt hb, Nat.ne_of_lt (Nat.lt_succ_of_lt hb)⟩
      · cases r₂ with
        | error e => exact hr₂
        | ok fl₂ =>
          cases fl₂ with
          | ret r =>
            obtain ⟨rfl, h', tk, rfl, hS', hk'⟩ := hr₂
            repeat (any_goals (first | assumption | wp_step))
            exact h _ _ hS' hk'
          | _ => exact hr₂.elim
    | _ => exact hr.elim
end
end SG

set_option Elab.async false
set_option linter.all false
set_option maxRecDepth 100000
set_option maxHeartbeats 8000000
/-! SG3: sorted(s), s a set of texts or of ints -/
namespace SG
open PySem PySem.Spec PyProof.Rows L2 SrtO
/-! ### texts in order -/
def sv : Value → List Nat
  | .str x _ => x.cps.toList
  | _ => []
def ltSv (v u : Value) : Bool := decide (sv v < sv u)
theorem nlt {a b : List Nat} : ¬ a < b ↔ b ≤ a := List.not_lt
theorem swo_str : Swo ltSv where
  asym x y h := by
    have h1 : sv x < sv y := of_decide_eq_true h
    exact decide_eq_false (List.lt_asymm h1)
  tr x y z h1 h2 := by
    have a : ¬ sv y < sv x := of_decide_eq_false h1
    have b : ¬ sv z < sv y := of_decide_eq_false h2
    exact decide_eq_false (nlt.mpr (List.le_trans (nlt.mp a) (nlt.mp b)))
section
variable {prog : Program} {w : World} {A : Around} {E : Value → Shared → Prop} {s : Shared}
theorem strs_of : ∀ {vs : List Value}, (∀ v ∈ vs, ∃ x t, v = Value.str x t) → ∃ xs, StrsAre vs xs
  | [], _ => ⟨[], .nil⟩
  | v :: vs, h => by
    obtain ⟨x, t, e⟩ := h v List.mem_cons_self
    obtain ⟨xs, r⟩ := strs_of (vs := vs) fun u hu => h u (List.mem_cons_of_mem _ hu)
    subst e
    exact ⟨x :: xs, .cons x t r⟩
theorem strs_sortable {a : Addr} {vs : List Value} (hI : ∀ v ∈ vs, ∃ x t, v = Value.str x t) (h2 : 2 ≤ vs.length) : SortableO prog w A s a vs ltSv := by
  intro h' _
  refine ⟨oneType', fun Q E hq => ?_, ?_⟩
  · obtain ⟨xs, hx⟩ := strs_of hI
    match vs, hx, h2 with
    | v1 :: v2 :: rest, hx, _ =>
      rw [keyKind_strs hx]
      exact wpAny_pure hq
    | [], _, h => exact absurd h (by decide)
    | [v], _, h => exact absurd h (by simp)
  · intro p q hm hm'
    obtain ⟨a, t, e⟩ := hI _ hm
    obtain ⟨b, u, e'⟩ := hI _ hm'
    show wpAny (model prog w) A (keyLt' oneType' p.1 q.1) (fun r s' => s' = _ ∧ r = ltSv p.1 q.1) (fun _ _ => False) _
    rw [e, e', keyLt'_oneType]
    exact oneLt_str ⟨rfl, rfl⟩
/-- sorted(s) of a set whose entries all are fit to be sorted by lt -/
theorem sorted_of {T : Type} [DecidableEq T] {knd : KeyKind prog w T} {a : Addr} {S : T → Bool} {n : Nat} {lt : Value → Value → Bool} {Q : Value → Shared → Prop} (O : Swo lt) (R : SetG knd s.heap a S n) (hh : A.handled = none)
    (fit : ∀ (B : Around) (s1 : Shared) (l : Addr) (vs : List Value), (∀ v ∈ vs, ∃ k, knd.is k v = true) → 2 ≤ vs.length → SortableO prog w B s1 l vs lt)
    (hQ : ∀ s' p (out : List Value) (c : Nat), (∀ b o, s.heap.get? b = some o → s'.heap.get? b = some o) → s'.gens = s.gens → s'.os = s.os → s.heap.objs.size ≤ p → s'.heap.get? p = some (seqObj "list" out.toArray c) →
      Srtd lt out → out.length = n → (∀ k, S k = true ↔ ∃ v ∈ out, knd.is k v = true) → (∀ v ∈ out, ∃ k, knd.is k v = true) → out.Pairwise (fun v u => ∀ k, knd.is k v = true → knd.is k u = false) → Q (.ref p) s') :
    wpAny (model prog w) A (call (.builtin "sorted") [.ref a]) Q E s := by
  obtain ⟨o, es, ep, t, ho, hex, hd, el, ap, mem, hb, hf, hn, hr, hl⟩ := R.ex
  refine Calls.call_function_entry kind_sorted plain_sorted entry_sorted (args_sorted1 _) ?_
  unfold Builtin.«sorted»
  refine wpAny_bind (m := checkCount "sorted" 1 1 _) (wpAny_pure ?_)
  refine wpAny_bind (collect_set (A := A.in1) hh ⟨o, ho, hex.1, hd⟩ hf hb hr hl fun s1 vs k1 hz g1 o1 pm => ?_)
  have len : vs.length = n := by rw [pm.length_eq, List.length_map, Array.length_toList]; exact hn
  have keyed : ∀ v ∈ vs, ∃ k, knd.is k v = true := fun v hv => by
    obtain ⟨e, he, q⟩ := List.mem_map.mp (pm.mem_iff.mp hv)
    obtain ⟨⟨k, hk, _⟩, _⟩ := el e he
    exact ⟨k, by rw [← q]; exact hk⟩
  have small : vs.length ≤ sizeLine := by rw [len, ← hn]; exact Nat.le_of_lt (Nat.lt_of_lt_of_le hb (by decide))
  refine wpAny_bind (wpAny_newList ?_ small)
  have hoL : (s1.heap.push (seqObj "list" vs.toArray 0)).get? s1.heap.objs.size = some (seqObj "list" vs.toArray 0) := Heap.get?_push_size _ rfl
  refine wpAny_bind (wpAny_holding (wpAny_call_entry slot_list_sort ⟨_, hoL, rfl⟩ entry_list_sort (list_sort_ord O hoL small (fun h2 => fit _ _ _ _ keyed h2) fun out a1 a2 => ⟨_, rfl, ?_⟩) (args_list_sort _)))
  obtain ⟨c, hc⟩ := sortedHeap_at (vs := vs) (out := out.toArray) hoL
  have po : out.Perm vs := a2.perm
  refine wpAny_pure ⟨_, rfl, hQ _ s1.heap.objs.size out c (fun b u e => ?_) g1 o1 hz hc a1 (by rw [po.length_eq, len]) (fun k => (mem k).trans ?_) (fun v hv => keyed v (po.mem_iff.mp hv)) ?_⟩
  · have q := k1 b u e
    have hlt := Heap.lt_size q
    show (sortedHeap (s1.heap.push (seqObj "list" vs.toArray 0)) s1.heap.objs.size vs out.toArray).get? b = some u
    rw [sortedHeap_old (Nat.ne_of_lt hlt) (by rw [size_push']; exact Nat.lt_succ_of_lt hlt)]
    exact Heap.get?_push_of_some _ q
  · constructor
    · rintro ⟨e, he, q⟩
      exact ⟨e.2, po.mem_iff.mpr (pm.mem_iff.mpr (List.mem_map.mpr ⟨e, he, rfl⟩)), q⟩
    · rintro ⟨v, hv, q⟩
      obtain ⟨e, he, q2⟩ := List.mem_map.mp (pm.mem_iff.mp (po.mem_iff.mp hv))
      exact ⟨e, he, by rw [q2]; exact q⟩
  · have ap2 : (es.toList.map (·.2)).Pairwise (fun v u => ∀ k, knd.is k v = true → knd.is k u = false) := List.pairwise_map.mpr (ap.imp fun {e f} z => z)
    refine (po.trans pm).symm.pairwise ap2 fun {v u} z k hk => ?_
    cases q : knd.is k v with
    | false => rfl
    | true => rw [z k q] at hk; cases hk
end
end SG

set_option Elab.async false
set_option linter.all false
set_option maxRecDepth 100000
set_option maxHeartbeats 8000000
/-! SG4: sorted(set(xs)), xs a list of texts, as an expression -/
namespace SG
open PySem PySem.Spec PyProof.Rows L2 SrtO
abbrev vS (z : List Nat) : V := .str (DL.S z)
theorem S_inj {a b : List Nat} (h : DL.S a = DL.S b) : a = b := by
  have : a.toArray = b.toArray := congrArg Str.cps h
  simpa using this
theorem S_cps (x : Str) : DL.S x.cps.toList = x := by
  show (⟨x.cps.toList.toArray⟩ : Str) = x
  simp
theorem cps_S (z : List Nat) : (DL.S z).cps.toList = z := by
  show z.toArray.toList = z
  simp
theorem isS {P : Program} {w : World} {k x : Str} {t : Tok} : (PySem.strKind P w).is k (.str x t) = true ↔ x = k := by
  show Value.isStrOf k (.str x t) = true ↔ x = k
  simp [Value.isStrOf]
theorem is_str {P : Program} {w : World} {k : Str} {v : Value} (h : (PySem.strKind P w).is k v = true) : ∃ t, v = .str k t := by
  have h' : Value.isStrOf k v = true := h
  cases v <;> simp [Value.isStrOf] at h'
  rename_i x t
  exact ⟨t, by rw [h']⟩
/-- sorted(set(xs)), texts -/
def tSortedSetS (K : PySem.W.Frag) (ta : TE) : TE := fun σ H Q => ta σ H fun x H1 => ∃ (l : Addr) (xs : List (List Nat)), x = .ref l ∧ SqL K H1 l (xs.map vS) ∧ xs.length ≤ 4000 ∧
  ∀ (ys : List (List Nat)) (p : Addr), ys.Pairwise (· < ·) → (∀ y, y ∈ ys ↔ y ∈ xs) → H1 p = none → Q (.ref p) (upd H1 p (.lst (ys.map vS)))
section
variable {X : Cx}
theorem vals_at : ∀ {xs : List (List Nat)} {us : List Value}, Vals (xs.map vS) us → ∀ (i : Nat) (v : Value), us[i]? = some v → ∃ t, v = .str (DL.S (xs.getD i [])) t
  | [], _, .nil, i, v, h => by simp at h
  | z :: xs, _, .cons r t, 0, v, h => by
    obtain ⟨k, rfl⟩ := r
    simp at h
    exact ⟨k, by rw [← h]; rfl⟩
  | z :: xs, _, .cons r t, i + 1, v, h => by
    simp only [List.getElem?_cons_succ] at h
    obtain ⟨k, e⟩ := vals_at t i v h
    exact ⟨k, by rw [e]; rfl⟩
theorem vals_out : ∀ {out : List Value}, (∀ v ∈ out, ∃ x t, v = Value.str x t) → Vals ((out.map sv).map vS) out
  | [], _ => .nil
  | v :: out, h => by
    obtain ⟨x, t, rfl⟩ := h v List.mem_cons_self
    exact .cons ⟨t, by rw [show sv (.str x t) = x.cps.toList from rfl, S_cps]⟩ (vals_out fun u hu => h u (List.mem_cons_of_mem _ hu))
theorem among_mem {xs : List (List Nat)} {k : Str} : among (fun i => DL.S (xs.getD i [])) xs.length k = true ↔ ∃ z ∈ xs, k = DL.S z := by
  unfold among
  rw [List.any_eq_true]
  constructor
  · rintro ⟨j, hj, e⟩
    have hj := List.mem_range.mp hj
    refine ⟨xs[j], List.getElem_mem hj, ?_⟩
    have := of_decide_eq_true e
    rw [this]
    simp [List.getD, List.getElem?_eq_getElem hj]
  · rintro ⟨z, hz, rfl⟩
    obtain ⟨j, hj, e⟩ := List.mem_iff_getElem.mp hz
    exact ⟨j, List.mem_range.mpr hj, decide_eq_true (by simp [List.getD, List.getElem?_eq_getElem hj, e])⟩
/-- what comes of it -/
theorem sorted_end {w : World} {P : Program} {xs : List (List Nat)} {out : List Value} {n : Nat} (a1 : Srtd ltSv out) (a2 : ∀ k, among (fun i => DL.S (xs.getD i [])) xs.length k = true ↔ ∃ v ∈ out, (PySem.strKind P w).is k v = true)
    (a3 : ∀ v ∈ out, ∃ k, (PySem.strKind P w).is k v = true) (a4 : out.Pairwise (fun v u => ∀ k, (PySem.strKind P w).is k v = true → (PySem.strKind P w).is k u = false)) :
    (out.map sv).Pairwise (· < ·) ∧ ∀ y, y ∈ out.map sv ↔ y ∈ xs := by
  constructor
  · rw [List.pairwise_map]
    refine (List.Pairwise.and a1 a4).imp_of_mem fun {v u} hv hu z => ?_
    obtain ⟨z1, z2⟩ := z
    obtain ⟨k, hk⟩ := a3 v hv
    obtain ⟨k', hk'⟩ := a3 u hu
    obtain ⟨t, rfl⟩ := is_str hk
    obtain ⟨t', rfl⟩ := is_str hk'
    have ne := z2 k hk
    have le : ¬ k'.cps.toList < k.cps.toList := of_decide_eq_false z1
    show k.cps.toList < k'.cps.toList
    rcases Classical.em (k.cps.toList < k'.cps.toList) with c | c
    · exact c
    · exfalso
      have e : k.cps.toList = k'.cps.toList := List.le_antisymm (nlt.mp le) (nlt.mp c)
      have e2 : k = k' := by rw [← S_cps k, ← S_cps k', e]
      rw [e2, isS.mpr rfl] at ne
      cases ne
  · intro y
    rw [List.mem_map]
    constructor
    · rintro ⟨v, hv, rfl⟩
      obtain ⟨k, hk⟩ := a3 v hv
      obtain ⟨z, hz, e⟩ := among_mem.mp ((a2 k).mpr ⟨v, hv, hk⟩)
      obtain ⟨t, rfl⟩ := is_str hk
      show k.cps.toList ∈ xs
      rw [e, cps_S]
      exact hz
    · intro hy
      obtain ⟨v, hv, hk⟩ := (a2 (DL.S y)).mp (among_mem.mpr ⟨y, hy, rfl⟩)
      obtain ⟨t, rfl⟩ := is_str hk
      exact ⟨_, hv, cps_S y⟩
theorem fin_sorted {pins : List (Addr × Obj)} {σ : L2.St} {H1 : Hp} {s1 : Shared} {Q : VK} {xs : List (List Nat)} {pos : Pos} (hc : X.calm = true) (I1 : Inv X pins σ H1 s1)
    (q1 : ∀ (ys : List (List Nat)) (p : Addr), ys.Pairwise (· < ·) → (∀ y, y ∈ ys ↔ y ∈ xs) → H1 p = none → Q (.ref p) (upd H1 p (.lst (ys.map vS)))) (h' : Heap) (tk m : Nat)
    (hS : SetG (PySem.strKind X.prog X.w) h' s1.heap.objs.size (among (fun i => DL.S (xs.getD i [])) xs.length) m) (hm' : m ≤ 4000) (hk : ∀ b o, b < s1.heap.objs.size → s1.heap.get? b = some o → h'.get? b = some o) :
    wpAny (model X.prog X.w) X.A (spliced (backTo pos (starEach [] X.env))) (fun vs s₂ => wpAny (model X.prog X.w) X.A (call (.builtin "sorted") (Value.ref s1.heap.objs.size :: vs)) (EP X pins σ Q) X.xe s₂) X.xe { s1 with heap := h', toks := tk } := by
  refine PyProof.Rows.args_nil ?_
  have I2 : Inv X pins σ H1 { s1 with heap := h', toks := tk } := I1.kept fun b o e => hk b o (Heap.lt_size e) e
  have hS2 : SetG (PySem.strKind X.prog X.w) ({ s1 with heap := h', toks := tk } : Shared).heap s1.heap.objs.size (among (fun i => DL.S (xs.getD i [])) xs.length) m := hS
  generalize ({ s1 with heap := h', toks := tk } : Shared) = s2 at I2 hS2 ⊢
  refine sorted_of (s := s2) swo_str hS2 (I2.ok.hd hc) (fun B s1 l vs hv h2 => strs_sortable (fun v hv' => by
    obtain ⟨k, hk⟩ := hv v hv'
    obtain ⟨t, e⟩ := is_str hk
    exact ⟨k, t, e⟩) h2) ?_
  intro s' p out c k1 g1 o1 hp hget a1 a5 a2 a3 a4
  obtain ⟨e1, e2⟩ := sorted_end (n := m) a1 a2 a3 a4
  have hn : H1 p = none := I2.hok.fresh hp
  have hv := vals_out (out := out) fun v hv' => by
    obtain ⟨k, hk⟩ := a3 v hv'
    obtain ⟨t, e⟩ := is_str hk
    exact ⟨k, t, e⟩
  have hlen : ((out.map sv).map vS).length ≤ sizeLine := by
    rw [List.length_map, List.length_map, a5]
    exact Nat.le_trans hm' (by decide)
  have J : Inv X pins σ (upd H1 p (.lst ((out.map sv).map vS))) { s2 with heap := s'.heap, gens := s'.gens, drawn := s'.drawn, toks := s'.toks } :=
    I2.call (ch := []) (Un.laid k1 hp hn) (I2.hok.laid k1 hp ⟨hlen, out, c, hv, hget⟩) (by rw [g1]; exact I2.bare) (fun _ z => nomatch z)
  have e : s' = { s2 with heap := s'.heap, gens := s'.gens, drawn := s'.drawn, toks := s'.toks } := by
    cases s'
    cases s2
    cases o1
    rfl
  rw [e]
  exact ⟨.ref p, _, J, rfl, q1 _ p e1 e2 hn⟩
theorem pe_sortedSetS {a : Expr} {ta : TE} {p p2 q pos : Pos} (hc : X.calm = true) (hg : Gl X "sorted") (hm : X.mg "sorted" = none) (hb1 : bootBuiltins "sorted" = some (.builtin "sorted")) (hg2 : Gl X "set") (hm2 : X.mg "set" = none) (ha : PE X a ta)
    (na : starEach [a] X.env = (false, eval a X.env) :: starEach [] X.env := by rfl) : PE X (.Call (.Name "sorted" p) [.Call (.Name "set" p2) [a] [] q] [] pos) (tSortedSetS X.K ta) := by
  constructor
  intro pins s σ H Q I h
  refine Call_ (ld_blt I hg hm hb1 ?_)
  refine PyProof.Rows.callWith_builtin1 (PyProof.Rows.args_cons ?_ rfl) rfl rfl
  refine Call_ (ld_blt I hg2 hm2 boot_set ?_)
  refine PyProof.Rows.callWith_type1 (PyProof.Rows.args_cons (thn (ha.run pins s σ H _ I h) fun v s1 ⟨x, H1, I1, r1, q1⟩ => PyProof.Rows.args_nil ?_) na) na rfl
  obtain ⟨l, xs, rfl, hq, few, q1⟩ := q1
  cases r1
  obtain ⟨its, r, pl, hz⟩ := I1.list hq
  have len : its.toArray.size = xs.length := by rw [List.size_toArray, ← r.length, List.length_map]
  refine set_of_list (knd := PySem.strKind X.prog X.w) (keys := fun i => DL.S (xs.getD i [])) (I1.ok.hd hc) pl.isList (fun i v hv => ?_) (by rw [len]; show _ + 1 < 4096; omega) fun h' tk hS hk => fin_sorted hc I1 q1 h' tk _ (by rw [len] at hS; exact hS) ?_ hk
  · obtain ⟨t, rfl⟩ := vals_at r i v (by simpa using hv)
    exact ⟨isS.mpr rfl, rfl⟩
  · exact Nat.le_trans (many_le _ _) few
end
end SG

set_option Elab.async false
set_option linter.all false
set_option maxRecDepth 100000
set_option maxHeartbeats 8000000
/-! SG5: sorted(set(x)), x a text -/
namespace SG
open PySem PySem.Spec PyProof.Rows L2 SrtO
def tSortedSetT (ta : TE) : TE := fun σ H Q => ta σ H fun x H1 => ∃ z : List Nat, x = .str (DL.S z) ∧ z.length ≤ 4000 ∧
  ∀ (ys : List (List Nat)) (p : Addr), ys.Pairwise (· < ·) → (∀ y, y ∈ ys ↔ y ∈ z.map fun c => [c]) → H1 p = none → Q (.ref p) (upd H1 p (.lst (ys.map vS)))
section
variable {X : Cx}
theorem pe_sortedSetT {a : Expr} {ta : TE} {p p2 q pos : Pos} (hc : X.calm = true) (hg : Gl X "sorted") (hm : X.mg "sorted" = none) (hb1 : bootBuiltins "sorted" = some (.builtin "sorted")) (hg2 : Gl X "set") (hm2 : X.mg "set" = none) (ha : PE X a ta)
    (na : starEach [a] X.env = (false, eval a X.env) :: starEach [] X.env := by rfl) : PE X (.Call (.Name "sorted" p) [.Call (.Name "set" p2) [a] [] q] [] pos) (tSortedSetT ta) := by
  constructor
  intro pins s σ H Q I h
  refine Call_ (ld_blt I hg hm hb1 ?_)
  refine PyProof.Rows.callWith_builtin1 (PyProof.Rows.args_cons ?_ rfl) rfl rfl
  refine Call_ (ld_blt I hg2 hm2 boot_set ?_)
  refine PyProof.Rows.callWith_type1 (PyProof.Rows.args_cons (thn (ha.run pins s σ H _ I h) fun v s1 ⟨x, H1, I1, r1, q1⟩ => PyProof.Rows.args_nil ?_) na) na rfl
  obtain ⟨z, rfl, few, q1⟩ := q1
  obtain ⟨t0, rfl⟩ := r1
  have len : (DL.S z).cps.size = z.length := by show z.toArray.size = _; simp
  refine set_of_text (knd := PySem.strKind X.prog X.w) (keys := fun i => DL.S ((z.map fun c => [c]).getD i [])) (I1.ok.hd hc) (fun i v hv => ?_) (by rw [len]; show _ + 1 < 4096; omega) fun h' tk hS hk => fin_sorted (xs := z.map fun c => [c]) hc I1 q1 h' tk _ (by rw [len] at hS; rw [List.length_map]; exact hS) ?_ hk
  · obtain ⟨c, u, hcu, rfl⟩ := hv
    have hi : z[i]? = some c := by
      have : (DL.S z).cps[i]? = z[i]? := by show z.toArray[i]? = _; simp
      rw [← this]; exact hcu
    have e : (z.map fun c => [c]).getD i [] = [c] := by simp [List.getD, List.getElem?_map, hi]
    exact ⟨isS.mpr (by rw [e]; rfl), rfl⟩
  · exact Nat.le_trans (many_le _ _) few
end
end SG

set_option Elab.async false
set_option linter.all false
set_option maxRecDepth 100000
set_option maxHeartbeats 4000000
set_option autoImplicit false
/-! DS: sorted(set(..)) over data -/
namespace DL
open PySem PySem.Spec PyProof.Rows L2 SG
theorem strs_vS (xs : List (List Nat)) : (xs.map S).map V.str = xs.map vS := by rw [List.map_map]; rfl
theorem RpAll.strs' {H : Hp} (xs : List (List Nat)) : RpAll H (xs.map Dt.str) (xs.map vS) := RpAll.strs_iff.mpr (strs_vS xs).symm
section
variable {B : Bs} {env : List Sl} {ta : TE} {K : PySem.W.Frag} {PL : List Dt → Prop}
theorem el_sortedSetS (h : Ev B false ta env fun x => ∃ xs : List (List Nat), x = .list (xs.map .str) ∧ xs.length ≤ 4000 ∧ ∀ ys : List (List Nat), ys.Pairwise (· < ·) → (∀ y, y ∈ ys ↔ y ∈ xs) → PL (ys.map .str)) : El B (tSortedSetS K ta) env PL := fun F H σ E Q q => h F H σ E _ fun d v F1 H1 h1 E1 g1 r1 => by
  obtain ⟨xs, rfl, few, hp⟩ := h1
  obtain ⟨a, vs, rfl, ha, hr⟩ := Rp.list_iff.mp r1
  rw [RpAll.strs_iff.mp hr, strs_vS] at ha
  exact ⟨a, xs, rfl, SqL.of ha, few, fun ys p k1 k2 hl => q _ _ p F1 _ (hp ys k1 k2) (E1.allocH _ hl) (g1.trans (Gr.allocH hl)) (g1.h.back hl) (E1.fh.back hl) upd_same (RpAll.strs' ys)⟩
theorem el_sortedSetT (h : Ev B false ta env fun x => ∃ z : List Nat, x = .str z ∧ z.length ≤ 4000 ∧ ∀ ys : List (List Nat), ys.Pairwise (· < ·) → (∀ y, y ∈ ys ↔ y ∈ z.map fun c => [c]) → PL (ys.map .str)) : El B (tSortedSetT ta) env PL := fun F H σ E Q q => h F H σ E _ fun d v F1 H1 h1 E1 g1 r1 => by
  obtain ⟨z, rfl, few, hp⟩ := h1
  exact ⟨z, Rp.str_iff.mp r1, few, fun ys p k1 k2 hl => q _ _ p F1 _ (hp ys k1 k2) (E1.allocH _ hl) (g1.trans (Gr.allocH hl)) (g1.h.back hl) (E1.fh.back hl) upd_same (RpAll.strs' ys)⟩
end
end DL

set_option Elab.async false
set_option linter.all false
set_option maxRecDepth 100000
set_option maxHeartbeats 4000000
set_option autoImplicit false
/-! DL6: gcd, list(range(n)), xs.index(i) -/
namespace DL
open PySem PySem.Spec PyProof.Rows L2
section
variable {B : Bs} {env : List Sl} {P : Dt → Prop} {PL : List Dt → Prop} {m : Bool} {ta tb : TE} {K : PySem.W.Frag}
theorem ev_gcd (h : Ev B false ta env fun x => Ev B false tb env fun y => ∃ i j : Int, x = .int i ∧ y = .int j ∧ P (.int ((Nat.gcd i.natAbs j.natAbs : Nat) : Int))) : Ev B m (tCB rGcd (tCons ta (tCons tb tNil))) env P := fun F H σ E Q q =>
  h F H σ E _ fun d v F1 H1 h1 E1 g1 r1 => h1 F1 H1 σ E1 _ fun d2 v2 F2 H2 h2 E2 g2 r2 => by
    obtain ⟨i, j, rfl, rfl, hp⟩ := h2
    exact ⟨i, j, by rw [Rp.int_iff.mp r1, Rp.int_iff.mp r2], q _ _ F2 H2 hp E2 (g1.trans g2) (Rp.int_iff.mpr rfl)⟩
theorem el_listRg1 (h : Ev B false ta env fun x => ∃ n : Nat, x = .int n ∧ n ≤ 1000000 ∧ PL ((List.range n).map fun i : Nat => .int i)) : El B (tLstRg (tRg1 ta)) env PL := fun F H σ E Q q => h F H σ E _ fun d v F1 H1 h1 E1 g1 r1 => by
  obtain ⟨n, rfl, hn, hp⟩ := h1
  refine ⟨n, Rp.int_iff.mp r1, RgOk.of_le (by omega) (by omega) (by omega) (by omega), fun p hl => ?_⟩
  have e : rgV 0 (n : Int) = (List.range n).map fun i : Nat => V.int i := by
    unfold rgV
    rw [show ((n : Int) - 0).toNat = n by omega]
    apply List.map_congr_left
    intro i _
    rw [Int.zero_add]
  rw [e]
  refine q _ _ p F1 _ hp (E1.allocH _ hl) (g1.trans (Gr.allocH hl)) (g1.h.back hl) (E1.fh.back hl) upd_same ?_
  have := RpAll.ints (H := F1) ((List.range n).map fun i : Nat => (i : Int))
  rw [List.map_map, List.map_map] at this
  exact this
theorem eqV_int (i j : Int) : eqV (.int i) (.int j) = decide (i = j) := by
  unfold eqV
  first | rfl | (rw [Bool.eq_iff_iff]; simp)
theorem ev_index (h : Es B ta env fun xs => Ev B false tb env fun y => ∃ (ns : List Int) (i : Int) (j : Nat), xs = ns.map .int ∧ y = .int i ∧ ns[j]? = some i ∧ (∀ k, k < j → ns[k]? ≠ some i) ∧ P (.int j)) : Ev B m (tBM K "list" (rIndex K) ta (tCons tb tNil)) env P := fun F H σ E Q q =>
  h F H σ E _ fun xs vs a F1 H1 h1 E1 g1 ha r1 => by
    refine ⟨.inl ⟨rfl, vs, SqL.of ha⟩, h1 F1 H1 σ E1 _ fun y w F2 H2 h2 E2 g2 r2 => ?_⟩
    obtain ⟨ns, i, j, rfl, rfl, hj, hk, hp⟩ := h2
    rw [RpAll.ints_iff.mp r1] at ha
    rw [Rp.int_iff.mp r2]
    refine ⟨a, ns.map V.int, .int i, j, .int i, rfl, rfl, SqL.of (g2.h _ _ ha), rfl, ?_, by rw [List.getElem?_map, hj]; rfl, by rw [eqV_int]; simp, fun k z hkj hz => ?_, q _ _ F2 H2 hp E2 (g1.trans g2) (Rp.int_iff.mpr rfl)⟩
    · rw [List.all_eq_true]
      intro x hx
      obtain ⟨n, _, rfl⟩ := List.mem_map.mp hx
      rfl
    · rw [List.getElem?_map] at hz
      cases e : ns[k]? with
      | none => rw [e] at hz; cases hz
      | some n =>
        rw [e] at hz
        cases hz
        rw [eqV_int]
        exact decide_eq_false fun z => hk k hkj (by rw [e, z])
/-- a whole number that the top has named -/
theorem pe_gint {X : Cx} {x : Str} {v : Int} {pos : Pos} (hg : Gl X x) (h : ∃ t, X.mg x = some (.int v t)) (hd : (x == ("__debug__" : Str)) = false := by decide) : PE X (.Name x pos) (tC (.int v)) := by
  obtain ⟨t, h⟩ := h
  exact pe_glob hg h ⟨t, rfl⟩ hd
end
end DL

set_option Elab.async false
set_option linter.all false
set_option maxRecDepth 100000
set_option maxHeartbeats 4000000
set_option autoImplicit false
/-! DL7: x, y = (a, b) where x, y are cells -/
namespace L2
open PySem PySem.Spec PyProof.Rows
variable {X : Cx}
theorem ps_par_none {i j : Nat} {x y : Str} {a b : Expr} {ta : TA} {px py pt pos : Pos} {kt k2 pt2} (hc : X.calm = true) (hN : X.N.Nodup) (hi : X.N[i]? = some x) (hj : X.N[j]? = some y) (hij : i ≠ j)
    (hx : Loc X.env.scope x) (hy : Loc X.env.scope y) (ha : PA X [a, b] ta)
    (hw : swappedStores [.Tuple [.Name x px, .Name y py] kt pt] (.Tuple [a, b] k2 pt2) X.env = pure none)
    (hs : swapsWithSole [.Tuple [.Name x px, .Name y py] kt pt] (.Tuple [a, b] k2 pt2) pos.line X.env = pure false := by rfl)
    (hfx : X.fn x = true ∨ X.env.scope.names.lookup x = some .local := by first | exact .inl rfl | exact .inr rfl)
    (hfy : X.fn y = true ∨ X.env.scope.names.lookup y = some .local := by first | exact .inl rfl | exact .inr rfl) :
    PS X (.Assign [.Tuple [.Name x px, .Name y py] kt pt] (.Tuple [a, b] k2 pt2) pos) (tPar i j ta) := by
  refine ⟨fun pins s σ H D I h => ?_⟩
  rw [exec_Assign_arm]
  refine wpAny_bind (wpAny_standAt ?_)
  rw [hs]
  refine wpAny_bind (wpAny_pure ?_)
  rw [if_neg (by decide)]
  refine wpAny_bind (Tuple_ (thn (ha.run _ pins s σ H _ I h) fun us s1 ⟨vs, H1, I1, r1, q1⟩ => ?_))
  obtain ⟨v, w, e1, q1⟩ := q1
  subst e1
  obtain ⟨u1, u2, rfl, rv, rw'⟩ : ∃ u1 u2, us = [u1, u2] ∧ RelV v u1 ∧ RelV w u2 := by
    cases r1 with
    | cons p q =>
      cases q with
      | cons p' q' =>
        cases q'
        exact ⟨_, _, rfl, p, p'⟩
  refine wpAny_newObj_type ?_ (by show 2 ≤ sizeLine; decide)
  have I2 : Inv X pins σ H1 { s1 with heap := s1.heap.push { cls := .type "tuple", data := .seq [u1, u2].toArray } } := I1.kept (t' := s1.toks) fun b o e => Heap.get?_push_of_some _ e
  rw [hw]
  refine wpAny_bind (wpAny_pure ?_)
  show wpAny (model X.prog X.w) X.A (do assignAll (.ref s1.heap.objs.size) [assign (.Tuple [.Name x px, .Name y py] kt pt) X.env]; pure Flow.next) _ _ _
  refine wpAny_bind (assign_Tuple_tuple (items := #[u1, u2]) (I.ok.hd hc) (IsTup.new s1.heap _) rfl rfl fun h' hx' => ?_)
  have I3 := I2.kept (h' := h') (t' := s1.toks) fun b o e => hx' b o (Nat.ne_of_lt (Heap.lt_size e)) e
  show wpAny _ _ (assignInOrder [assign (.Name x px) X.env, assign (.Name y py) X.env] [u1, u2]) _ _ _
  refine assignInOrder_cons (wpAny_assign_Name (store_ok I3 hN hi hx rv (fun s2 I4 => ?_) hfx))
  refine assignInOrder_cons (wpAny_assign_Name (store_ok I4 hN hj hy rw' (fun s3 I5 => assignInOrder_nil (wpAny_pure ?_)) hfy))
  exact ⟨_, H1, I5, q1⟩
end L2

set_option autoImplicit false
set_option linter.all false
/-! powers and turns of words: the mathematics -/
namespace M01
open M00
def pw (r : List Nat) (t : Nat) : List Nat := (List.replicate t r).flatten
def rot (x : List Nat) (i : Nat) : List Nat := x.drop i ++ x.take i
theorem pw_len (r : List Nat) (t : Nat) : (pw r t).length = t * r.length := by
  unfold pw
  rw [List.length_flatten, List.map_replicate, List.sum_replicate_nat]
theorem pw_succ (r : List Nat) (t : Nat) : pw r (t + 1) = r ++ pw r t := by
  unfold pw
  rw [List.replicate_succ, List.flatten_cons]
theorem pw_get {r : List Nat} : ∀ (t j : Nat), j < t * r.length → (pw r t)[j]? = r[j % r.length]?
  | 0, j, h => by omega
  | t + 1, j, h => by
    rw [pw_succ]
    by_cases c : j < r.length
    · rw [List.getElem?_append_left c, Nat.mod_eq_of_lt c]
    · rw [List.getElem?_append_right (by omega), pw_get t (j - r.length) (by rw [Nat.succ_mul] at h; omega), ← Nat.mod_eq_sub_mod (by omega)]
theorem rot_len (x : List Nat) (i : Nat) : (rot x i).length = x.length := by
  unfold rot
  rw [List.length_append, List.length_drop, List.length_take]
  omega
theorem rot_get {x : List Nat} {i j : Nat} (hi : i ≤ x.length) (hj : j < x.length) : (rot x i)[j]? = x[(i + j) % x.length]? := by
  unfold rot
  by_cases c : i + j < x.length
  · rw [List.getElem?_append_left (by rw [List.length_drop]; omega), List.getElem?_drop, Nat.mod_eq_of_lt c]
  · rw [List.getElem?_append_right (by rw [List.length_drop]; omega), List.length_drop, List.getElem?_take_of_lt (by omega), Nat.mod_eq_sub_mod (by omega), Nat.mod_eq_of_lt (by omega)]
    congr 1
    omega
theorem ext_lt {a b : List Nat} (hl : a.length = b.length) (h : ∀ j, j < a.length → a[j]? = b[j]?) : a = b := by
  apply List.ext_getElem?
  intro j
  by_cases c : j < a.length
  · exact h j c
  · rw [List.getElem?_eq_none (by omega), List.getElem?_eq_none (by omega)]
/-- x turned by i is x -/
def Sh (x : List Nat) (i : Nat) : Prop := ∀ j, x[(j + i) % x.length]? = x[j % x.length]?
theorem sh_rot {x : List Nat} {i : Nat} (hi : i ≤ x.length) : rot x i = x ↔ Sh x i := by
  constructor
  · intro h j
    rcases Nat.eq_zero_or_pos x.length with z | z
    · rw [List.length_eq_zero_iff.mp z]; rfl
    · have hj := Nat.mod_lt j z
      have e := rot_get hi hj
      rw [h] at e
      rw [e, Nat.add_comm i, Nat.mod_add_mod]
  · intro h
    refine ext_lt (rot_len x i) fun j hj => ?_
    rw [rot_len] at hj
    rw [rot_get hi hj, Nat.add_comm, h j, Nat.mod_eq_of_lt hj]
theorem Sh.zero (x : List Nat) : Sh x 0 := fun j => rfl
theorem Sh.full (x : List Nat) : Sh x x.length := fun j => by rw [Nat.add_mod_right]
theorem Sh.add {x : List Nat} {a b : Nat} (ha : Sh x a) (hb : Sh x b) : Sh x (a + b) := fun j => by rw [← Nat.add_assoc, hb (j + a), ha j]
theorem Sh.sub {x : List Nat} {a b : Nat} (ha : Sh x a) (hab : Sh x (a + b)) : Sh x b := fun j => by
  have h1 := ha (j + b)
  have h2 := hab j
  rw [show j + (a + b) = j + b + a by omega] at h2
  rw [← h1, h2]
theorem Sh.mul {x : List Nat} {a : Nat} (ha : Sh x a) : ∀ k, Sh x (a * k)
  | 0 => Sh.zero x
  | k + 1 => by rw [Nat.mul_succ]; exact (Sh.mul ha k).add ha
theorem least {p : Nat → Prop} : ∀ n, p n → ∃ k, k ≤ n ∧ p k ∧ ∀ j, j < k → ¬ p j := by
  intro n
  induction n using Nat.strongRecOn with
  | _ n ih =>
    intro hn
    by_cases c : ∃ m, m < n ∧ p m
    · obtain ⟨m, hm, pm⟩ := c
      obtain ⟨k, k1, k2, k3⟩ := ih m hm pm
      exact ⟨k, by omega, k2, k3⟩
    · exact ⟨n, Nat.le_refl _, hn, fun j hj hp => c ⟨j, hj, hp⟩⟩
/-- the length of the root -/
structure Per (x : List Nat) (s : Nat) : Prop where
  pos : 1 ≤ s
  le : s ≤ x.length
  sh : Sh x s
  min : ∀ i, 1 ≤ i → Sh x i → s ≤ i
theorem per_ex {x : List Nat} (hx : x ≠ []) : ∃ s, Per x s := by
  have h0 : 0 < x.length := List.length_pos_iff.mpr hx
  obtain ⟨k, k1, ⟨k2, k3⟩, k4⟩ := least (p := fun i => 1 ≤ i ∧ Sh x i) x.length ⟨h0, Sh.full x⟩
  exact ⟨k, k2, k1, k3, fun i h1 h2 => by
    rcases Nat.lt_or_ge i k with c | c
    · exact absurd ⟨h1, h2⟩ (k4 i c)
    · exact c⟩
theorem Per.dvd {x : List Nat} {s i : Nat} (P : Per x s) (h : Sh x i) : i % s = 0 := by
  have hr : Sh x (i % s) := Sh.sub (P.sh.mul (i / s)) (by rw [Nat.div_add_mod]; exact h)
  rcases Nat.eq_zero_or_pos (i % s) with z | z
  · exact z
  · have := P.min _ z hr
    have := Nat.mod_lt i P.pos
    omega
theorem Per.uniq {x : List Nat} {s t : Nat} (P : Per x s) (Q : Per x t) : s = t := Nat.le_antisymm (P.min t Q.pos Q.sh) (Q.min s P.pos P.sh)
theorem Per.div {x : List Nat} {s : Nat} (P : Per x s) : x.length % s = 0 := P.dvd (Sh.full x)
/-- as a power -/
theorem sh_pw {x : List Nat} {s : Nat} (h1 : 1 ≤ s) (h2 : s ≤ x.length) (hd : x.length % s = 0) : pw (x.take s) (x.length / s) = x ↔ Sh x s := by
  have hl : (x.take s).length = s := by rw [List.length_take]; omega
  have hn : x.length / s * s = x.length := Nat.div_mul_cancel (Nat.dvd_of_mod_eq_zero hd)
  have hmm : ∀ j, j % x.length % s = j % s := fun j => Nat.mod_mod_of_dvd j (Nat.dvd_of_mod_eq_zero hd)
  have h0 : 0 < x.length := by omega
  constructor
  · intro h j
    have key : ∀ i, i < x.length → x[i]? = x[i % s]? := fun i hi => by
      have e := pw_get (r := x.take s) (x.length / s) i (by rw [hl, hn]; exact hi)
      rw [h, hl, List.getElem?_take_of_lt (Nat.mod_lt _ h1)] at e
      exact e
    rw [key _ (Nat.mod_lt _ h0), key (j % x.length) (Nat.mod_lt _ h0), hmm, hmm, Nat.add_mod_right]
  · intro h
    refine ext_lt (by rw [pw_len, hl, hn]) fun j hj => ?_
    rw [pw_len, hl] at hj
    rw [pw_get _ j (by rw [hl]; exact hj), hl, List.getElem?_take_of_lt (Nat.mod_lt _ h1)]
    have e := h.mul (j / s) (j % s)
    rw [Nat.add_comm, Nat.div_add_mod, Nat.mod_eq_of_lt (by omega), Nat.mod_eq_of_lt (by have := Nat.mod_lt j h1; omega)] at e
    exact e.symm
theorem Per.pw {x : List Nat} {s : Nat} (P : Per x s) : M01.pw (x.take s) (x.length / s) = x := (sh_pw P.pos P.le P.div).mpr P.sh
/-- periods -/
theorem sh_pd {x : List Nat} {s : Nat} (h1 : 1 ≤ s) (h2 : s ≤ x.length) (h : Sh x s) : Pd x s := by
  rw [Pd_iff]
  refine ⟨h1, h2, fun j hj => ?_⟩
  have := h j
  rw [Nat.mod_eq_of_lt hj, Nat.mod_eq_of_lt (by omega)] at this
  exact this.symm
theorem pd_sh {x : List Nat} {s : Nat} (h : Pd x s) (hd : x.length % s = 0) : Sh x s := by
  rw [Pd_iff] at h
  obtain ⟨h1, h2, h3⟩ := h
  refine (sh_pw h1 h2 hd).mp ?_
  have hl : (x.take s).length = s := by rw [List.length_take]; omega
  have hn : x.length / s * s = x.length := Nat.div_mul_cancel (Nat.dvd_of_mod_eq_zero hd)
  have key : ∀ q i, i < s → q * s + i < x.length → x[q * s + i]? = x[i]? := by
    intro q
    induction q with
    | zero => intro i _ _; rw [Nat.zero_mul, Nat.zero_add]
    | succ q ih =>
      intro i hi hq
      rw [Nat.succ_mul] at hq ⊢
      rw [show q * s + s + i = q * s + i + s by omega, ← h3 (q * s + i) (by omega)]
      exact ih i hi (by omega)
  refine ext_lt (by rw [pw_len, hl, hn]) fun j hj => ?_
  rw [pw_len, hl] at hj
  rw [pw_get _ j (by rw [hl]; exact hj), hl, List.getElem?_take_of_lt (Nat.mod_lt _ h1)]
  have := key (j / s) (j % s) (Nat.mod_lt _ h1) (by rw [Nat.mul_comm, Nat.div_add_mod]; omega)
  rw [Nat.mul_comm, Nat.div_add_mod] at this
  exact this.symm
/-- root_of's two cases -/
theorem per_yes {x : List Nat} {p : Nat} (h : LeastP x p) (hd : x.length % p = 0) : Per x p := by
  obtain ⟨s, P⟩ := per_ex (x := x) (fun z => by have := h.1.2.1; have := h.1.1; rw [z] at *; simp at *; omega)
  have h1 := h.2 s (sh_pd P.pos P.le P.sh)
  have h2 := P.min p h.1.1 (pd_sh h.1 hd)
  have e : s = p := Nat.le_antisymm h2 h1
  rw [← e]
  exact P
theorem per_no {x : List Nat} {p : Nat} (h : LeastP x p) (hd : ¬ x.length % p = 0) : Per x x.length := by
  obtain ⟨s, P⟩ := per_ex (x := x) (fun z => by have := h.1.2.1; have := h.1.1; rw [z] at *; simp at *; omega)
  have pd := sh_pd P.pos P.le P.sh
  have h1 := h.2 s pd
  rcases Nat.lt_or_ge s x.length with c | c
  · exfalso
    obtain ⟨k, hk⟩ := Nat.dvd_of_mod_eq_zero P.div
    have hk2 : 2 ≤ k := by
      rcases k with _ | _ | k
      · omega
      · omega
      · omega
    have : s * 2 ≤ s * k := Nat.mul_le_mul_left s hk2
    have g := Pd.gcd _ (Nat.le_refl _) h.1 pd (by omega)
    have g1 := h.2 _ g
    have g2 : Nat.gcd p s ∣ p := Nat.gcd_dvd_left p s
    have e : Nat.gcd p s = p := Nat.le_antisymm (Nat.le_of_dvd h.1.1 g2) g1
    have g3 : p ∣ s := by
      have := Nat.gcd_dvd_right p s
      rwa [e] at this
    exact hd (Nat.mod_eq_zero_of_dvd (Nat.dvd_trans g3 (Nat.dvd_of_mod_eq_zero P.div)))
  · have e : s = x.length := Nat.le_antisymm P.le c
    rw [← e]
    exact P
end M01

set_option autoImplicit false
set_option linter.all false
namespace M01
open M00
theorem Per.tl {x : List Nat} {s : Nat} (P : Per x s) : (x.take s).length = s := by
  rw [List.length_take]
  have := P.le
  omega
theorem Per.nn {x : List Nat} {s : Nat} (P : Per x s) : x.length / s * s = x.length := Nat.div_mul_cancel (Nat.dvd_of_mod_eq_zero P.div)
theorem Per.root {x : List Nat} {s : Nat} (P : Per x s) (j : Nat) : x[j % x.length]? = (x.take s)[j % s]? := by
  have h0 : 0 < x.length := by have := P.pos; have := P.le; omega
  have e := pw_get (r := x.take s) (x.length / s) (j % x.length) (by rw [P.tl, P.nn]; exact Nat.mod_lt _ h0)
  rw [P.pw, P.tl, Nat.mod_mod_of_dvd j (Nat.dvd_of_mod_eq_zero P.div)] at e
  exact e
theorem Per.prim {x : List Nat} {s i : Nat} (P : Per x s) (h : Sh (x.take s) i) : i % s = 0 := by
  refine P.dvd fun j => ?_
  have := h j
  rw [P.tl] at this
  rw [P.root, P.root, this]
theorem rot_pw {x : List Nat} {s i : Nat} (P : Per x s) (hi : i ≤ x.length) : rot x i = pw (rot (x.take s) (i % s)) (x.length / s) := by
  have h1 := P.pos
  refine ext_lt (by rw [rot_len, pw_len, rot_len, P.tl, P.nn]) fun j hj => ?_
  rw [rot_len] at hj
  rw [rot_get hi hj, P.root, pw_get _ j (by rw [rot_len, P.tl, P.nn]; exact hj), rot_len, P.tl]
  rw [rot_get (by rw [P.tl]; exact Nat.le_of_lt (Nat.mod_lt _ h1)) (by rw [P.tl]; exact Nat.mod_lt _ h1), P.tl, ← Nat.add_mod]
theorem rot_sh {x : List Nat} {i j : Nat} (hi : i ≤ j) (hj : j ≤ x.length) (h : rot x i = rot x j) : Sh x (j - i) := by
  rcases Nat.eq_zero_or_pos x.length with z | z
  · intro k; rw [List.length_eq_zero_iff.mp z]; rfl
  · have key : ∀ m, x[(i + m) % x.length]? = x[(j + m) % x.length]? := fun m => by
      have hm := Nat.mod_lt m z
      have e1 := rot_get (x := x) (i := i) (by omega) hm
      have e2 := rot_get (x := x) (i := j) hj hm
      rw [Nat.add_mod_mod] at e1 e2
      rw [← e1, ← e2, h]
    intro k
    have := key (k + (x.length - i))
    rw [show i + (k + (x.length - i)) = k + x.length by omega, show j + (k + (x.length - i)) = k + (j - i) + x.length by omega, Nat.add_mod_right, Nat.add_mod_right] at this
    exact this.symm
theorem rot_inj {x : List Nat} {s i j : Nat} (P : Per x s) (hi : i ≤ x.length) (hj : j ≤ x.length) : rot x i = rot x j ↔ i % s = j % s := by
  constructor
  · intro h
    have aux : ∀ a b, a ≤ b → b ≤ x.length → rot x a = rot x b → a % s = b % s := fun a b hab hb e => by
      have := P.dvd (rot_sh hab hb e)
      have e2 : b = a + (b - a) := by omega
      rw [e2, Nat.add_mod, this, Nat.add_zero, Nat.mod_mod]
    rcases Nat.le_total i j with c | c
    · exact aux i j c hj h
    · exact (aux j i c hi h.symm).symm
  · intro h
    rw [rot_pw P hi, rot_pw P hj, h]
/-! places -/
theorem cut_rot {x : List Nat} {i : Nat} (hi : i ≤ x.length) : ((x ++ x).drop i).take x.length = rot x i := by
  unfold rot
  rw [List.drop_append_of_le_length hi, List.take_append, List.length_drop, List.take_of_length_le (by rw [List.length_drop]; omega), show x.length - (x.length - i) = i by omega]
theorem filt_len {α β : Type} (f : α → β) (q : β → Bool) (l : List α) : ((l.map f).filter q).length = (l.filter fun x => q (f x)).length := by
  rw [List.filter_map, List.length_map]
  rfl
theorem multiples {s : Nat} (hs : 1 ≤ s) : ∀ t, ((List.range (t * s + 1)).filter fun i => i % s == 0).length = t + 1
  | 0 => by simp
  | t + 1 => by
    have ih := multiples hs t
    rw [show (t + 1) * s + 1 = (t * s + 1) + s by rw [Nat.succ_mul]; omega, List.range_add, List.filter_append, List.length_append, ih, filt_len]
    obtain ⟨m, rfl⟩ : ∃ m, s = m + 1 := ⟨s - 1, by omega⟩
    rw [List.range_succ, List.filter_append, List.filter_eq_nil_iff.mpr, List.filter_cons_of_pos]
    · rfl
    · have : (t * (m + 1) + 1 + m) % (m + 1) = 0 := by
        rw [show t * (m + 1) + 1 + m = (t + 1) * (m + 1) by rw [Nat.succ_mul]; omega]
        exact Nat.mul_mod_left _ _
      simpa using this
    · intro j hj
      have hj := List.mem_range.mp hj
      have : (t * (m + 1) + 1 + j) % (m + 1) = 1 + j := by
        rw [Nat.add_assoc, Nat.add_comm, Nat.add_mul_mod_self_right, Nat.mod_eq_of_lt (by omega)]
      simp [this]
def places (x : List Nat) : List Nat := (List.range (x.length + 1)).filter fun i => decide (((x ++ x).drop i).take x.length = x)
theorem places_len {x : List Nat} {s : Nat} (P : Per x s) : (places x).length = x.length / s + 1 := by
  have e : places x = (List.range (x.length / s * s + 1)).filter fun i => i % s == 0 := by
    unfold places
    rw [P.nn]
    apply List.filter_congr
    intro i hi
    have hi := List.mem_range.mp hi
    rw [cut_rot (by omega)]
    by_cases c : rot x i = x
    · rw [decide_eq_true c, P.dvd ((sh_rot (by omega)).mp c)]
      rfl
    · rw [decide_eq_false c]
      symm
      have : ¬ i % s = 0 := fun z => c (by
        have := (rot_inj P (i := i) (j := 0) (by omega) (Nat.zero_le _)).mpr (by rw [z, Nat.zero_mod])
        rw [this]
        unfold rot
        simp)
      simpa using this
  rw [e, multiples P.pos]
/-! in order -/
theorem app_lt : ∀ {a b : List Nat} (u v : List Nat), a.length = b.length → a < b → a ++ u < b ++ v
  | [], [], _, _, _, h => absurd h (List.lt_irrefl _)
  | [], _ :: _, _, _, h, _ => by cases h
  | _ :: _, [], _, _, h, _ => by cases h
  | x :: a, y :: b, u, v, h, hl => by
    rw [List.cons_append, List.cons_append, List.cons_lt_cons_iff]
    rcases List.cons_lt_cons_iff.mp hl with c | ⟨c, d⟩
    · exact .inl c
    · exact .inr ⟨c, app_lt u v (by simpa using h) d⟩
theorem lt_pw {a b : List Nat} {t : Nat} (ht : 1 ≤ t) (hl : a.length = b.length) (h : a < b) : pw a t < pw b t := by
  obtain ⟨t, rfl⟩ : ∃ k, t = k + 1 := ⟨t - 1, by omega⟩
  rw [pw_succ, pw_succ]
  exact app_lt _ _ hl h
theorem asc_uniq : ∀ {a b : List (List Nat)}, a.Pairwise (· < ·) → b.Pairwise (· < ·) → (∀ y, y ∈ a ↔ y ∈ b) → a = b
  | [], [], _, _, _ => rfl
  | [], y :: b, _, _, h => absurd ((h y).mpr List.mem_cons_self) (by simp)
  | x :: a, [], _, _, h => absurd ((h x).mp List.mem_cons_self) (by simp)
  | x :: a, y :: b, ha, hb, h => by
    obtain ⟨a1, a2⟩ := List.pairwise_cons.mp ha
    obtain ⟨b1, b2⟩ := List.pairwise_cons.mp hb
    have e : x = y := by
      rcases List.mem_cons.mp ((h x).mp List.mem_cons_self) with z | z
      · exact z
      · rcases List.mem_cons.mp ((h y).mpr List.mem_cons_self) with z' | z'
        · exact z'.symm
        · exact absurd (a1 y z') (List.lt_asymm (b1 x z))
    subst e
    rw [asc_uniq a2 b2 fun z => ?_]
    constructor
    · intro hz
      rcases List.mem_cons.mp ((h z).mp (List.mem_cons_of_mem _ hz)) with q | q
      · exact absurd (a1 z hz) (by rw [q]; exact List.lt_irrefl _)
      · exact q
    · intro hz
      rcases List.mem_cons.mp ((h z).mpr (List.mem_cons_of_mem _ hz)) with q | q
      · exact absurd (b1 z hz) (by rw [q]; exact List.lt_irrefl _)
      · exact q
def rots (x : List Nat) : List (List Nat) := (List.range (max 1 x.length)).map (rot x)
theorem Per.n1 {x : List Nat} {s : Nat} (P : Per x s) : 1 ≤ x.length := Nat.le_trans P.pos P.le
theorem rots_map {x : List Nat} {s : Nat} (P : Per x s) {ys zs : List (List Nat)} (h1 : ys.Pairwise (· < ·)) (h2 : ∀ y, y ∈ ys ↔ y ∈ rots x) (h3 : zs.Pairwise (· < ·)) (h4 : ∀ y, y ∈ zs ↔ y ∈ rots (x.take s)) :
    ys = zs.map fun z => pw z (x.length / s) := by
  have ht : 1 ≤ x.length / s := Nat.div_pos P.le P.pos
  have hlen : ∀ z ∈ zs, z.length = s := fun z hz => by
    obtain ⟨i, _, rfl⟩ := List.mem_map.mp ((h4 z).mp hz)
    rw [rot_len, P.tl]
  refine asc_uniq h1 ?_ fun y => ?_
  · rw [List.pairwise_map]
    exact h3.imp_of_mem fun {a b} ha hb hab => lt_pw ht (by rw [hlen a ha, hlen b hb]) hab
  · rw [h2, List.mem_map]
    unfold rots
    rw [List.mem_map]
    constructor
    · rintro ⟨i, hi, rfl⟩
      have hi := List.mem_range.mp hi
      have := P.n1
      refine ⟨rot (x.take s) (i % s), (h4 _).mpr ?_, (rot_pw P (by omega)).symm⟩
      unfold rots
      refine List.mem_map.mpr ⟨i % s, List.mem_range.mpr ?_, rfl⟩
      rw [P.tl]
      have := Nat.mod_lt i P.pos
      omega
    · rintro ⟨z, hz, rfl⟩
      have hz := (h4 z).mp hz
      unfold rots at hz
      obtain ⟨j, hj, rfl⟩ := List.mem_map.mp hz
      have hj := List.mem_range.mp hj
      rw [P.tl] at hj
      have h1 := P.pos
      have h2 := P.le
      have hjs : j < s := by omega
      refine ⟨j, List.mem_range.mpr (by omega), ?_⟩
      rw [rot_pw P (by omega), Nat.mod_eq_of_lt hjs]
theorem perm_len {a b : List (List Nat)} (ha : a.Nodup) (hb : b.Nodup) (h : ∀ y, y ∈ a ↔ y ∈ b) : a.length = b.length :=
  ((List.perm_ext_iff_of_nodup ha hb).mpr h).length_eq
theorem rots_nodup {x : List Nat} {s : Nat} (P : Per x s) : (rots (x.take s)).Nodup := by
  unfold rots
  refine List.pairwise_map.mpr (List.nodup_range.imp_of_mem fun {i j} hi hj hne e => ?_)
  have hi := List.mem_range.mp hi
  have hj := List.mem_range.mp hj
  rw [P.tl] at hi hj
  have h1 := P.pos
  have aux : ∀ a b, a < b → b < s → rot (x.take s) a = rot (x.take s) b → False := fun a b hab hb e => by
    have := P.prim (rot_sh (Nat.le_of_lt hab) (by rw [P.tl]; omega) e)
    rw [Nat.mod_eq_of_lt (by omega)] at this
    omega
  rcases Nat.lt_trichotomy i j with c | c | c
  · exact aux i j c (by omega) e
  · exact hne c
  · exact aux j i c (by omega) e.symm
theorem rots_count {x : List Nat} {s : Nat} (P : Per x s) {zs : List (List Nat)} (h3 : zs.Pairwise (· < ·)) (h4 : ∀ y, y ∈ zs ↔ y ∈ rots (x.take s)) : zs.length = s := by
  have hn : zs.Nodup := h3.imp fun {a b} h e => by rw [e] at h; exact List.lt_irrefl _ h
  rw [perm_len hn (rots_nodup P) h4]
  unfold rots
  rw [List.length_map, List.length_range, P.tl]
  have := P.pos
  omega
theorem rots_nil {ys : List (List Nat)} (h1 : ys.Pairwise (· < ·)) (h2 : ∀ y, y ∈ ys ↔ y ∈ rots []) : ys = [[]] :=
  asc_uniq h1 (List.pairwise_singleton _ _) fun y => by rw [h2]; rfl
/-! words that commute -/
theorem pw_add (r : List Nat) : ∀ a b, pw r a ++ pw r b = pw r (a + b)
  | 0, b => by rw [Nat.zero_add]; rfl
  | a + 1, b => by rw [pw_succ, List.append_assoc, pw_add r a b, ← pw_succ, Nat.succ_add]
theorem pw_zero (r : List Nat) : pw r 0 = [] := rfl
theorem per_pw {x : List Nat} {s m : Nat} (P : Per x s) (hm : 1 ≤ m) : Per (pw (x.take s) m) s ∧ (pw (x.take s) m).take s = x.take s ∧ (pw (x.take s) m).length = m * s := by
  have hl : (pw (x.take s) m).length = m * s := by rw [pw_len, P.tl]
  have h1 := P.pos
  have hms : s ≤ m * s := Nat.le_mul_of_pos_left s hm
  have key : ∀ j, (pw (x.take s) m)[j % (m * s)]? = (x.take s)[j % s]? := fun j => by
    have e := pw_get (r := x.take s) m (j % (m * s)) (by rw [P.tl]; exact Nat.mod_lt _ (by omega))
    rw [P.tl, Nat.mod_mod_of_dvd j ⟨m, Nat.mul_comm m s⟩] at e
    exact e
  refine ⟨⟨h1, by rw [hl]; exact hms, fun j => ?_, fun i hi hs => ?_⟩, ?_, hl⟩
  · rw [hl, key, key, Nat.add_mod_right]
  · have : i % s = 0 := P.prim fun j => by
      have := hs j
      rw [hl, key, key] at this
      rw [P.tl]
      exact this
    exact Nat.le_of_dvd hi (Nat.dvd_of_mod_eq_zero this)
  · obtain ⟨m, rfl⟩ : ∃ k, m = k + 1 := ⟨m - 1, by omega⟩
    rw [pw_succ]
    have e : ((x.take s) ++ pw (x.take s) m).take (x.take s).length = x.take s := List.take_left
    rw [P.tl] at e
    exact e
theorem all_c {c : Nat} : ∀ {f : List Nat}, f ++ [c] = c :: f → f = List.replicate f.length c
  | [], _ => rfl
  | y :: f, h => by
    rw [List.cons_append] at h
    obtain ⟨h1, h2⟩ := List.cons.inj h
    subst h1
    rw [List.length_cons, List.replicate_succ, ← all_c h2]
/-- a power of the root that commutes with itself and a letter more: the root is the letter -/
theorem root_letter {x : List Nat} {s a c : Nat} (P : Per x s) (ha : 1 ≤ a) (h : pw (x.take s) a ++ (pw (x.take s) a ++ [c]) = (pw (x.take s) a ++ [c]) ++ pw (x.take s) a) : x.take s = [c] := by
  obtain ⟨Q, q1, q2⟩ := per_pw P ha
  have h2 : pw (x.take s) a ++ [c] = c :: pw (x.take s) a := by
    rw [List.append_assoc] at h
    exact List.append_cancel_left h
  have h3 := all_c h2
  have h4 : x.take s = List.replicate s c := by
    rw [← q1, h3, List.take_replicate, Nat.min_eq_left (by rw [q2]; exact Nat.le_mul_of_pos_left s ha)]
  have h5 : 1 % s = 0 := P.prim fun j => by
    have h1 := P.pos
    rw [h4, List.length_replicate, List.getElem?_replicate, List.getElem?_replicate, if_pos (Nat.mod_lt _ h1), if_pos (Nat.mod_lt _ h1)]
  have h6 : s = 1 := by
    have h1 := P.pos
    rcases Nat.lt_or_ge 1 s with z | z
    · rw [Nat.mod_eq_of_lt z] at h5; cases h5
    · omega
  rw [h4, h6]
  rfl
end M01

set_option autoImplicit false
set_option linter.all false
/-! words with two great periods: the mathematics -/
namespace M02
open M00
theorem bezout : ∀ (n : Nat) (p m : Nat), p + m ≤ n → 1 ≤ p → 1 ≤ m → Nat.gcd p m = 1 → ∃ x y, p * x = m * y + 1
  | 0, p, m, h, hp, hm, _ => by omega
  | n + 1, p, m, h, hp, hm, hg => by
    by_cases h1 : m = 1
    · exact ⟨1, p - 1, by subst h1; omega⟩
    · by_cases h2 : p = m
      · subst h2
        rw [Nat.gcd_self] at hg
        exact absurd hg h1
      · by_cases h3 : m < p
        · obtain ⟨x, y, e⟩ := bezout n (p - m) m (by omega) (by omega) hm (by rw [Nat.gcd_sub_self_left (Nat.le_of_lt h3)]; exact hg)
          refine ⟨x, x + y, ?_⟩
          have e2 : p * x = (p - m) * x + m * x := by rw [← Nat.add_mul]; congr 1; omega
          rw [e2, e, Nat.mul_add]
          omega
        · obtain ⟨x, y, e⟩ := bezout n p (m - p) (by omega) hp (by omega) (by rw [Nat.gcd_sub_self_right (by omega)]; exact hg)
          refine ⟨x + y, y, ?_⟩
          have e2 : m * y = (m - p) * y + p * y := by rw [← Nat.add_mul]; congr 1; omega
          rw [e2, Nat.mul_add, e]
          omega
/-- p and q without common divisor; u turns p round -/
structure Ring (p q u : Nat) : Prop where
  p2 : 2 ≤ p
  q2 : 2 ≤ q
  inv : p * u % (p + q) = 1
theorem ring_ex {p q : Nat} (hp : 2 ≤ p) (hq : 2 ≤ q) (hg : Nat.gcd p q = 1) : ∃ u, Ring p q u := by
  obtain ⟨x, y, e⟩ := bezout _ p (p + q) (Nat.le_refl _) (by omega) (by omega) (by rw [Nat.gcd_self_add_right]; exact hg)
  exact ⟨x, hp, hq, by rw [e, Nat.mul_add_mod, Nat.mod_eq_of_lt (by omega)]⟩
def idx (p q u i : Nat) : Nat := (i + 1) * u % (p + q)
def pos (p q k : Nat) : Nat := (p + q - 1 + k * p) % (p + q)
section
variable {p q u : Nat} (R : Ring p q u)
include R
theorem idx_lt (i : Nat) : idx p q u i < p + q := Nat.mod_lt _ (by have := R.p2; omega)
theorem pos_lt (k : Nat) : pos p q k < p + q := Nat.mod_lt _ (by have := R.p2; omega)
theorem mul_inv (k : Nat) : k * p * u % (p + q) = k % (p + q) := by
  rw [Nat.mul_assoc, Nat.mul_mod, R.inv, Nat.mul_one, Nat.mod_mod]
theorem pos_one (k : Nat) : (pos p q k + 1) % (p + q) = k * p % (p + q) := by
  have := R.p2
  unfold pos
  rw [Nat.mod_add_mod, show p + q - 1 + k * p + 1 = k * p + (p + q) by omega, Nat.add_mod_right]
theorem idx_pos {k : Nat} (hk : k < p + q) : idx p q u (pos p q k) = k := by
  unfold idx
  rw [Nat.mul_mod, pos_one R, ← Nat.mul_mod, mul_inv R, Nat.mod_eq_of_lt hk]
theorem pos_idx {i : Nat} (hi : i < p + q) : pos p q (idx p q u i) = i := by
  have := R.p2
  unfold pos idx
  have e : (i + 1) * u % (p + q) * p % (p + q) = (i + 1) % (p + q) := by
    rw [Nat.mul_mod, Nat.mod_mod, ← Nat.mul_mod, Nat.mul_assoc, Nat.mul_comm u p, ← Nat.mul_assoc]
    exact mul_inv R (i + 1)
  rw [Nat.add_mod, e, ← Nat.add_mod, show p + q - 1 + (i + 1) = i + (p + q) by omega, Nat.add_mod_right, Nat.mod_eq_of_lt hi]
theorem pos_succ (k : Nat) : pos p q (k + 1) = (pos p q k + p) % (p + q) := by
  unfold pos
  rw [Nat.mod_add_mod, Nat.succ_mul]
  congr 1
  omega
/-- the cut -/
def cut (p q u : Nat) : Nat := idx p q u (p + q - 2)
theorem idx_last : idx p q u (p + q - 1) = 0 := by
  have := R.p2
  unfold idx
  rw [show p + q - 1 + 1 = p + q by omega, Nat.mul_mod_right]
theorem pos_in {k : Nat} (h1 : 1 ≤ k) (h2 : k < p + q) (h3 : k ≠ cut p q u) : pos p q k < p + q - 2 := by
  have a := pos_lt R k
  have b := idx_pos R h2
  have c : pos p q k ≠ p + q - 1 := fun z => by rw [z, idx_last R] at b; omega
  have d : pos p q k ≠ p + q - 2 := fun z => by rw [z] at b; exact h3 b.symm
  omega
theorem idx_in {i : Nat} (hi : i < p + q - 2) : 1 ≤ idx p q u i ∧ idx p q u i < p + q ∧ idx p q u i ≠ cut p q u := by
  have := R.p2
  refine ⟨?_, idx_lt R i, fun z => ?_⟩
  · rcases Nat.eq_zero_or_pos (idx p q u i) with z | z
    · have e := pos_idx R (i := i) (by omega)
      rw [z, ← idx_last R, pos_idx R (by omega)] at e
      omega
    · exact z
  · have e := pos_idx R (i := i) (by omega)
    rw [z] at e
    unfold cut at e
    rw [pos_idx R (by omega)] at e
    omega
/-- what has both periods: f at the places below p + q - 2 -/
def Both {α : Type} (p q : Nat) (f : Nat → α) : Prop := (∀ i, i + p < p + q - 2 → f i = f (i + p)) ∧ ∀ i, i + q < p + q - 2 → f i = f (i + q)
theorem both_step {α : Type} {f : Nat → α} (h : Both p q f) {k : Nat} (h1 : pos p q k < p + q - 2) (h2 : pos p q (k + 1) < p + q - 2) : f (pos p q k) = f (pos p q (k + 1)) := by
  have e := pos_succ R k
  by_cases c : pos p q k + p < p + q
  · rw [Nat.mod_eq_of_lt c] at e
    rw [e] at h2 ⊢
    exact h.1 _ h2
  · rw [Nat.mod_eq_sub_mod (by omega), Nat.mod_eq_of_lt (by omega)] at e
    have e2 : pos p q k = pos p q (k + 1) + q := by omega
    rw [e2]
    exact (h.2 _ (by omega)).symm
theorem both_run {α : Type} {f : Nat → α} (h : Both p q f) {a : Nat} : ∀ d, (∀ k, a ≤ k → k ≤ a + d → 1 ≤ k ∧ k < p + q ∧ k ≠ cut p q u) → f (pos p q a) = f (pos p q (a + d))
  | 0, _ => rfl
  | d + 1, hk => by
    have ih := both_run h d fun k h1 h2 => hk k h1 (by omega)
    obtain ⟨x1, x2, x3⟩ := hk (a + d) (by omega) (by omega)
    obtain ⟨y1, y2, y3⟩ := hk (a + d + 1) (by omega) (by omega)
    rw [ih, both_step R h (pos_in R x1 x2 x3) (pos_in R y1 y2 y3)]
    rfl
/-- which side of the cut -/
def side (p q u i : Nat) : Bool := decide (idx p q u i < cut p q u)
theorem both_side {α : Type} {f : Nat → α} (h : Both p q f) {i j : Nat} (hi : i < p + q - 2) (hj : j < p + q - 2) (e : side p q u i = side p q u j) : f i = f j := by
  have aux : ∀ i j, i < p + q - 2 → j < p + q - 2 → side p q u i = side p q u j → idx p q u i ≤ idx p q u j → f i = f j := by
    intro i j hi hj e hle
    obtain ⟨i1, i2, i3⟩ := idx_in R hi
    obtain ⟨j1, j2, j3⟩ := idx_in R hj
    have := both_run R h (a := idx p q u i) (idx p q u j - idx p q u i) fun k h1 h2 => ⟨by omega, by omega, fun z => by
      unfold side at e
      have : (idx p q u i < cut p q u) ↔ (idx p q u j < cut p q u) := by
        have := decide_eq_decide.mp e
        exact this
      omega⟩
    rw [show idx p q u i + (idx p q u j - idx p q u i) = idx p q u j by omega, pos_idx R (by omega), pos_idx R (by omega)] at this
    exact this
  rcases Nat.le_total (idx p q u i) (idx p q u j) with c | c
  · exact aux i j hi hj e c
  · exact (aux j i hj hi e.symm c).symm
theorem idx_p {i : Nat} : idx p q u (i + p) = (idx p q u i + 1) % (p + q) := by
  unfold idx
  rw [show (i + p + 1) * u = (i + 1) * u + p * u by rw [← Nat.add_mul]; congr 1; omega, Nat.add_mod, R.inv, Nat.add_mod ((i + 1) * u % (p + q)), Nat.mod_mod, Nat.mod_eq_of_lt (show 1 < p + q by have := R.p2; omega)]
theorem side_both : Both p q (side p q u) := by
  have := R.p2
  have key : ∀ a b, a < p + q - 2 → b < p + q - 2 → idx p q u b = (idx p q u a + 1) % (p + q) → side p q u a = side p q u b := by
    intro a b ha hb e
    obtain ⟨a1, a2, a3⟩ := idx_in R ha
    obtain ⟨b1, b2, b3⟩ := idx_in R hb
    have e2 : idx p q u b = idx p q u a + 1 := by
      rcases Nat.lt_or_ge (idx p q u a + 1) (p + q) with c | c
      · rw [e, Nat.mod_eq_of_lt c]
      · have : idx p q u a + 1 = p + q := by omega
        rw [this, Nat.mod_self] at e
        omega
    unfold side
    rw [decide_eq_decide]
    omega
  refine ⟨fun i hi => key i (i + p) (by omega) hi (idx_p R), fun i hi => (key (i + q) i hi (by omega) ?_).symm⟩
  have e := idx_p R (i := i + q)
  rw [← e]
  unfold idx
  rw [show (i + q + p + 1) * u = (i + 1) * u + (p + q) * u by rw [← Nat.add_mul]; congr 1; omega, Nat.add_mul_mod_self_left]
/-- both sides are there -/
theorem side_one : side p q u (p - 1) = true := by
  have h1 := R.p2
  have h2 := R.q2
  have e : idx p q u (p - 1) = 1 := by
    unfold idx
    rw [show p - 1 + 1 = p by omega, R.inv]
  obtain ⟨_, _, h3⟩ := idx_in R (i := p - 1) (by omega)
  unfold side
  rw [e] at h3 ⊢
  have h4 : cut p q u ≠ 0 := fun z => by
    have := pos_idx R (i := p + q - 2) (by omega)
    unfold cut at z
    rw [z, ← idx_last R, pos_idx R (by omega)] at this
    omega
  exact decide_eq_true (by omega)
theorem side_two : side p q u (q - 1) = false := by
  have h1 := R.p2
  have h2 := R.q2
  have e := idx_p R (i := q - 1)
  rw [show q - 1 + p = p + q - 1 by omega, idx_last R] at e
  have e2 : idx p q u (q - 1) = p + q - 1 := by
    have := idx_lt R (q - 1)
    rcases Nat.lt_or_ge (idx p q u (q - 1) + 1) (p + q) with c | c
    · rw [Nat.mod_eq_of_lt c] at e; omega
    · omega
  unfold side
  have := idx_lt R (p + q - 2)
  unfold cut
  exact decide_eq_false (by omega)
end
end M02

set_option autoImplicit false
set_option linter.all false
namespace M02
open M00
/-- the word itself -/
def xw (p q u : Nat) : List Nat := (List.range (p + q - 2)).map fun i => if side p q u i = side p q u 0 then 97 else 98
section
variable {p q u : Nat} (R : Ring p q u)
include R
theorem xw_len : (xw p q u).length = p + q - 2 := by unfold xw; rw [List.length_map, List.length_range]
theorem xw_get {i : Nat} (hi : i < p + q - 2) : (xw p q u)[i]? = some (if side p q u i = side p q u 0 then 97 else 98) := by
  unfold xw
  rw [List.getElem?_map, List.getElem?_range hi]
  rfl
/-- read from the end -/
theorem side_back {i : Nat} (hi : i < p + q - 2) : side p q u (p + q - 3 - i) = side p q u i := by
  have := R.p2
  have := R.q2
  obtain ⟨i1, i2, i3⟩ := idx_in R hi
  obtain ⟨j1, j2, j3⟩ := idx_in R (i := p + q - 3 - i) (by omega)
  have key : (idx p q u (p + q - 3 - i) + idx p q u i) % (p + q) = cut p q u := by
    unfold cut idx
    rw [← Nat.add_mod, ← Nat.add_mul]
    congr 2
    omega
  have hc : cut p q u < p + q := idx_lt R _
  have : idx p q u (p + q - 3 - i) + idx p q u i = cut p q u ∨ idx p q u (p + q - 3 - i) + idx p q u i = cut p q u + (p + q) := by
    rcases Nat.lt_or_ge (idx p q u (p + q - 3 - i) + idx p q u i) (p + q) with c | c
    · rw [Nat.mod_eq_of_lt c] at key; exact .inl key
    · rw [Nat.mod_eq_sub_mod c, Nat.mod_eq_of_lt (by omega)] at key
      exact .inr (by omega)
  unfold side
  rw [decide_eq_decide]
  omega
theorem xw_rev : (xw p q u).reverse = xw p q u := by
  have := R.p2
  have := R.q2
  apply List.ext_getElem?
  intro j
  by_cases h : j < p + q - 2
  · rw [List.getElem?_reverse (by rw [xw_len R]; exact h), xw_len R, show p + q - 2 - 1 - j = p + q - 3 - j by omega, xw_get R (by omega), xw_get R h, side_back R h]
  · rw [List.getElem?_eq_none (by rw [List.length_reverse, xw_len R]; omega), List.getElem?_eq_none (by rw [xw_len R]; omega)]
theorem xw_p : Pd (xw p q u) p := by
  have := R.p2
  have := R.q2
  rw [Pd_iff, xw_len R]
  exact ⟨by omega, by omega, fun j hj => by rw [xw_get R (by omega), xw_get R hj, (side_both R).1 j hj]⟩
theorem xw_q : Pd (xw p q u) q := by
  have := R.p2
  have := R.q2
  rw [Pd_iff, xw_len R]
  exact ⟨by omega, by omega, fun j hj => by rw [xw_get R (by omega), xw_get R hj, (side_both R).2 j hj]⟩
/-- not all its letters are the same -/
theorem xw_two : (xw p q u)[p - 1]? ≠ (xw p q u)[q - 1]? := by
  have := R.p2
  have := R.q2
  rw [xw_get R (by omega), xw_get R (by omega), side_one R, side_two R]
  cases side p q u 0 <;> decide
end
/-- a word of period 1 has one letter -/
theorem pd_one {w : List Nat} (h : Pd w 1) {i j : Nat} (hi : i < w.length) (hj : j < w.length) : w[i]? = w[j]? := by
  have key : ∀ i, i < w.length → w[i]? = w[0]? := by
    intro i
    induction i with
    | zero => intro _; rfl
    | succ i ih =>
      intro hi
      rw [← ih (by omega)]
      exact ((Pd_iff.mp h).2.2 i hi).symm
  rw [key i hi, key j hj]
section
variable {p q u : Nat} (R : Ring p q u)
include R
theorem not_one : ¬ Pd (xw p q u) 1 := fun h => by
  have := R.p2
  have := R.q2
  exact xw_two R (pd_one h (by rw [xw_len R]; omega) (by rw [xw_len R]; omega))
theorem coprime : Nat.gcd p q = 1 := by
  have hd1 : Nat.gcd p q ∣ p := Nat.gcd_dvd_left p q
  have hd2 : Nat.gcd p q ∣ p + q := Nat.dvd_add hd1 (Nat.gcd_dvd_right p q)
  have h := R.inv
  have e : p * u = (p + q) * (p * u / (p + q)) + 1 := by
    have := Nat.div_add_mod (p * u) (p + q)
    omega
  have h1 : Nat.gcd p q ∣ p * u := Nat.dvd_trans hd1 ⟨u, rfl⟩
  have h2 : Nat.gcd p q ∣ (p + q) * (p * u / (p + q)) := Nat.dvd_trans hd2 ⟨_, rfl⟩
  rw [e] at h1
  exact Nat.dvd_one.mp ((Nat.dvd_add_right h2).mp h1)
/-- no lesser period -/
theorem least_pq {d : Nat} (h : Pd (xw p q u) d) : p ≤ d ∨ q ≤ d := by
  have := R.p2
  have := R.q2
  rcases Nat.lt_or_ge d p with c | c
  · rcases Nat.lt_or_ge d q with c' | c'
    · exfalso
      have h1 := h.1
      have cop := coprime R
      have hne : p ≠ q := fun z => by rw [z, Nat.gcd_self] at cop; omega
      have aux : ∀ a b, Pd (xw p q u) a → Pd (xw p q u) b → a < b → a + b = p + q → Nat.gcd a b = 1 → d < a → False := by
        intro a b ha hb hab hs hg hda
        by_cases e : d + 1 = a
        · have g := Pd.gcd _ (Nat.le_refl _) h ha (by rw [xw_len R]; omega)
          have : Nat.gcd d a = 1 := by rw [← e]; simp
          rw [this] at g
          exact not_one R g
        · have g := Pd.gcd _ (Nat.le_refl _) h hb (by rw [xw_len R]; omega)
          have hle : Nat.gcd d b ≤ d := Nat.le_of_dvd h1 (Nat.gcd_dvd_left d b)
          have g2 := Pd.gcd _ (Nat.le_refl _) g ha (by rw [xw_len R]; omega)
          have e1 : Nat.gcd (Nat.gcd d b) a ∣ Nat.gcd a b := Nat.dvd_gcd (Nat.gcd_dvd_right _ _) (Nat.dvd_trans (Nat.gcd_dvd_left _ _) (Nat.gcd_dvd_right _ _))
          rw [hg] at e1
          rw [Nat.dvd_one.mp e1] at g2
          exact not_one R g2
      rcases Nat.lt_or_ge p q with x | x
      · exact aux p q (xw_p R) (xw_q R) x rfl cop c
      · exact aux q p (xw_q R) (xw_p R) (by omega) (Nat.add_comm q p) (by rw [Nat.gcd_comm]; exact cop) c'
    · exact .inr c'
  · exact .inl c
/-- a letter more: not both periods -/
theorem longer {w : List Nat} (hl : w.length = p + q - 1) (h1 : Pd w p) (h2 : Pd w q) {i j : Nat} (hi : i < p + q - 1) (hj : j < p + q - 1) : w[i]? = w[j]? := by
  have := R.p2
  have := R.q2
  rw [Pd_iff, hl] at h1 h2
  have step : ∀ k, pos p q k < p + q - 1 → pos p q (k + 1) < p + q - 1 → w[pos p q k]? = w[pos p q (k + 1)]? := by
    intro k a b
    have e := pos_succ R k
    by_cases c : pos p q k + p < p + q
    · rw [Nat.mod_eq_of_lt c] at e
      rw [e] at b ⊢
      exact h1.2.2 _ b
    · rw [Nat.mod_eq_sub_mod (by omega), Nat.mod_eq_of_lt (by omega)] at e
      have e2 : pos p q k = pos p q (k + 1) + q := by omega
      rw [e2]
      exact (h2.2.2 _ (by omega)).symm
  have inn : ∀ k, 1 ≤ k → k < p + q → pos p q k < p + q - 1 := by
    intro k a b
    have c := pos_lt R k
    have d := idx_pos R b
    have : pos p q k ≠ p + q - 1 := fun z => by rw [z, idx_last R] at d; omega
    omega
  have run : ∀ k, 1 ≤ k → k < p + q → w[pos p q k]? = w[pos p q 1]? := by
    intro k
    induction k with
    | zero => intro a; omega
    | succ k ih =>
      intro a b
      rcases Nat.eq_zero_or_pos k with z | z
      · rw [z]
      · rw [← step k (inn k z (by omega)) (inn (k + 1) a b)]
        exact ih z (by omega)
  have key : ∀ i, i < p + q - 1 → w[i]? = w[pos p q 1]? := by
    intro i hi
    have e := pos_idx R (i := i) (by omega)
    have h0 : 1 ≤ idx p q u i := by
      rcases Nat.eq_zero_or_pos (idx p q u i) with z | z
      · rw [z, ← idx_last R, pos_idx R (by omega)] at e; omega
      · exact z
    rw [← run _ h0 (idx_lt R i), e]
  rw [key i hi, key j hj]
theorem longer_end (c : Nat) : ¬ (Pd (xw p q u ++ [c]) p ∧ Pd (xw p q u ++ [c]) q) := fun ⟨h1, h2⟩ => by
  have := R.p2
  have := R.q2
  have e := longer R (w := xw p q u ++ [c]) (by rw [List.length_append, xw_len R]; show _ + 1 = _; omega) h1 h2 (i := p - 1) (j := q - 1) (by omega) (by omega)
  rw [List.getElem?_append_left (by rw [xw_len R]; omega), List.getElem?_append_left (by rw [xw_len R]; omega)] at e
  exact xw_two R e
theorem longer_begin (c : Nat) : ¬ (Pd ([c] ++ xw p q u) p ∧ Pd ([c] ++ xw p q u) q) := fun ⟨h1, h2⟩ => by
  have := R.p2
  have := R.q2
  have e := longer R (w := [c] ++ xw p q u) (by rw [List.length_append, xw_len R]; show 1 + _ = _; omega) h1 h2 (i := p) (j := q) (by omega) (by omega)
  rw [List.getElem?_append_right (by show 1 ≤ _; omega), List.getElem?_append_right (by show 1 ≤ _; omega)] at e
  exact xw_two R e
end
end M02

set_option autoImplicit false
set_option linter.all false
namespace M02
open M00
def merge (g : Nat → Nat) (a b : Nat) : Nat → Nat := fun i => if g i = g b then g a else g i
theorem merge_keep {g : Nat → Nat} {a b i j : Nat} (h : g i = g j) : merge g a b i = merge g a b j := by unfold merge; rw [h]
theorem merge_join (g : Nat → Nat) (a b : Nat) : merge g a b a = merge g a b b := by unfold merge; rw [if_pos rfl]; split <;> rfl
def Sound (p q u : Nat) (g : Nat → Nat) : Prop := ∀ i j, i < p + q - 2 → j < p + q - 2 → g i = g j → side p q u i = side p q u j
theorem merge_sound {p q u a b : Nat} {g : Nat → Nat} (h : Sound p q u g) (ha : a < p + q - 2) (hb : b < p + q - 2) (hs : side p q u a = side p q u b) : Sound p q u (merge g a b) := by
  intro i j hi hj e
  unfold merge at e
  by_cases c : g i = g b
  · rw [if_pos c] at e
    by_cases d : g j = g b
    · exact h i j hi hj (by rw [c, d])
    · rw [if_neg d] at e
      rw [h i b hi hb c, ← hs]
      exact h a j ha hj e
  · rw [if_neg c] at e
    by_cases d : g j = g b
    · rw [if_pos d] at e
      rw [h j b hj hb d, ← hs]
      exact h i a hi ha e
    · rw [if_neg d] at e
      exact h i j hi hj e
section
variable {p q u : Nat} (R : Ring p q u)
include R
theorem final {g : Nat → Nat} (h : Sound p q u g) (hb : Both p q g) {i j : Nat} (hi : i < p + q - 2) (hj : j < p + q - 2) : g i = g j ↔ side p q u i = side p q u j :=
  ⟨h i j hi hj, both_side R hb hi hj⟩
theorem swap {v : Nat} (R' : Ring q p v) : xw q p v = xw p q u := by
  have := R.p2
  have := R.q2
  have b1 : Both p q (side q p v) := ⟨fun i hi => (side_both R').2 i (by omega), fun i hi => (side_both R').1 i (by omega)⟩
  have b2 : Both q p (side p q u) := ⟨fun i hi => (side_both R).2 i (by omega), fun i hi => (side_both R).1 i (by omega)⟩
  unfold xw
  rw [Nat.add_comm q p]
  apply List.map_congr_left
  intro i hi
  have hi := List.mem_range.mp hi
  have e : (side q p v i = side q p v 0) ↔ (side p q u i = side p q u 0) :=
    ⟨fun z => both_side R' b2 (by omega) (by omega) z, fun z => both_side R b1 hi (by omega) z⟩
  by_cases c : side p q u i = side p q u 0
  · rw [if_pos c, if_pos (e.mpr c)]
  · rw [if_neg c, if_neg (fun z => c (e.mp z))]
/-- the letters are those of the groups -/
theorem final_word {g : Nat → Nat} (h : Sound p q u g) (hb : Both p q g) : (List.range (p + q - 2)).map (fun i => if g i = g 0 then 97 else 98) = xw p q u := by
  have := R.p2
  have := R.q2
  unfold xw
  apply List.map_congr_left
  intro i hi
  have hi := List.mem_range.mp hi
  have e := final R h hb hi (show 0 < p + q - 2 by omega)
  by_cases c : g i = g 0
  · rw [if_pos c, if_pos (e.mp c)]
  · rw [if_neg c, if_neg (fun z => c (e.mpr z))]
/-- there are two groups -/
theorem two_groups {g : Nat → Nat} (h : Sound p q u g) (hb : Both p q g) {i j : Nat} (hi : i < p + q - 2) (hj : j < p + q - 2) (h1 : g i ≠ g 0) (h2 : g j ≠ g 0) : g i = g j := by
  have := R.p2
  have := R.q2
  have h0 : 0 < p + q - 2 := by omega
  rw [final R h hb hi hj]
  have a : side p q u i ≠ side p q u 0 := fun z => h1 ((final R h hb hi h0).mpr z)
  have b : side p q u j ≠ side p q u 0 := fun z => h2 ((final R h hb hj h0).mpr z)
  revert a b
  cases side p q u i <;> cases side p q u j <;> cases side p q u 0 <;> simp
theorem xw_head : (xw p q u).take 1 = [97] := by
  have := R.p2
  have := R.q2
  have e := xw_get R (i := 0) (by omega)
  rw [if_pos rfl] at e
  cases h : xw p q u with
  | nil => rw [h] at e; cases e
  | cons a l => rw [h] at e; simp at e; simp [e]
theorem xw_mem (y : List Nat) : y ∈ (xw p q u).map (fun c => [c]) ↔ y = [97] ∨ y = [98] := by
  have := R.p2
  have := R.q2
  have h1 := xw_get R (i := p - 1) (by omega)
  have h2 := xw_get R (i := q - 1) (by omega)
  rw [side_one R] at h1
  rw [side_two R] at h2
  rw [List.mem_map]
  constructor
  · rintro ⟨c, hc, rfl⟩
    unfold xw at hc
    obtain ⟨i, _, rfl⟩ := List.mem_map.mp hc
    split
    · exact .inl rfl
    · exact .inr rfl
  · have m1 := List.mem_of_getElem? h1
    have m2 := List.mem_of_getElem? h2
    rintro (rfl | rfl)
    · cases h : side p q u 0 <;> rw [h] at m1 m2 <;> first | exact ⟨97, by simpa using m1, rfl⟩ | exact ⟨97, by simpa using m2, rfl⟩
    · cases h : side p q u 0 <;> rw [h] at m1 m2 <;> first | exact ⟨98, by simpa using m1, rfl⟩ | exact ⟨98, by simpa using m2, rfl⟩
theorem xw_lets : ∀ c ∈ xw p q u, 97 ≤ c ∧ c ≤ 122 := fun c hc => by
  unfold xw at hc
  obtain ⟨i, _, rfl⟩ := List.mem_map.mp hc
  split <;> decide
end
/-- a beginning that is its own reverse -/
theorem pal_take {w : List Nat} {d : Nat} (hr : w.reverse = w) (h2 : 2 ≤ d) (hd : Pd w (w.length + 2 - d)) (hle : d ≤ w.length) : (w.take (d - 2)).reverse = w.take (d - 2) := by
  have h := Pd_iff.mp hd
  apply List.ext_getElem?
  intro j
  by_cases c : j < d - 2
  · rw [List.getElem?_reverse (by rw [List.length_take]; omega), List.length_take, List.getElem?_take_of_lt (by omega), List.getElem?_take_of_lt (by omega)]
    have e1 := h.2.2 (min (d - 2) w.length - 1 - j) (by omega)
    have e2 : w[w.length - 1 - j]? = w[j]? := by
      have := List.getElem?_reverse (l := w) (i := j) (by omega)
      rw [hr] at this
      exact this.symm
    rw [e1, ← e2]
    congr 1
    omega
  · rw [List.getElem?_eq_none (by rw [List.length_reverse, List.length_take]; omega), List.getElem?_eq_none (by rw [List.length_take]; omega)]
/-- what _law_has asks -/
theorem has_iff {w : List Nat} {d : Nat} (h1 : 1 ≤ d) (h2 : d ≤ w.length) : w.drop d = w.take (w.length - d) ↔ Pd w d := by
  rw [Pd_iff]
  constructor
  · intro h
    refine ⟨h1, h2, fun j hj => ?_⟩
    have e : (w.drop d)[j]? = (w.take (w.length - d))[j]? := by rw [h]
    rw [List.getElem?_drop, List.getElem?_take_of_lt (by omega)] at e
    rw [← e, Nat.add_comm]
  · rintro ⟨_, _, h⟩
    apply List.ext_getElem?
    intro j
    rw [List.getElem?_drop]
    by_cases c : j < w.length - d
    · rw [List.getElem?_take_of_lt c, h j (by omega), Nat.add_comm]
    · rw [List.getElem?_eq_none (by omega), List.getElem?_eq_none (by rw [List.length_take]; omega)]
end M02

set_option Elab.async false
set_option linter.all false
set_option maxRecDepth 100000
set_option maxHeartbeats 4000000
set_option autoImplicit false
namespace DL
open PySem PySem.Spec PyProof.Rows L2 M00 M02 SG DX
local macro_rules | `(tactic| walk_at "lit") => `(tactic| fail "lit")
local macro_rules | `(tactic| walk_at "side") => `(tactic| first | omega | (simp only [CMul, CDiv, CPow, List.length_nil, List.length_cons, List.length_map, List.length_append, List.length_replicate]; omega) | decide | (simp; done) | (simp; omega))
local macro_rules | `(tactic| walk_at "es1") => `(tactic| first
  | ((with_reducible refine es_own (xs := ?dld) ?dlh ?_); (case dlh => exact rfl))
  | ((with_reducible refine es_el ?_); walk_at "el1")
  | with_reducible refine es_ev ?_)
local macro_rules | `(tactic| walk_at "el1") => `(tactic| first
  | with_reducible refine el_lst ?_
  | with_reducible refine el_cat ?_
  | with_reducible refine el_rep ?_
  | with_reducible refine el_listOf ?_
  | with_reducible refine el_revL ?_
  | with_reducible refine el_slL ?_
  | with_reducible refine el_sortedI ?_
  | with_reducible refine el_listRg1 ?_
  | with_reducible refine el_sortedSetS ?_
  | with_reducible refine el_sortedSetT ?_
  | with_reducible refine el_call ?_)
local macro_rules | `(tactic| walk_at "et1") => `(tactic| first
  | with_reducible refine et_ib ?_
  | with_reducible refine et_eq ?_
  | with_reducible refine et_ne ?_
  | with_reducible refine et_and ?_
  | with_reducible refine et_or ?_
  | with_reducible refine et_not ?_
  | with_reducible refine et_ltS ?_
  | with_reducible refine et_gtS ?_
  | with_reducible refine et_leS ?_
  | with_reducible refine et_geS ?_
  | with_reducible refine et_yes ?_
  | with_reducible refine et_test ?_
  | with_reducible refine et_B ?_)
local macro_rules | `(tactic| walk_at "ev1") => `(tactic| first
  | ((with_reducible refine ev_var (d := ?dld) ?dlh ?_); (case dlh => exact rfl))
  | with_reducible refine ev_int ?_
  | with_reducible refine ev_ii ?_
  | with_reducible refine ev_iiC ?_
  | ((with_reducible refine ev_own (xs := ?dld) ?dlh ?_); (case dlh => exact rfl))
  | ((with_reducible refine ev_str (x := ?dld) ?dlh ?_); (case dlh => walk_at "lit"))
  | with_reducible refine ev_int1 ?_
  | with_reducible refine ev_call ?_
  | with_reducible refine ev_callN ?_
  | with_reducible refine ev_callS ?_
  | ((with_reducible refine ev_what (by assumption) (by exact rfl) ?_))
  | with_reducible refine ev_lenS ?_
  | ((with_reducible refine ev_lenRaw (a := ?dla) (ns := ?dln) ?dlh ?dls ?_); (case dlh => exact rfl); (case dls => assumption))
  | with_reducible refine ev_lenL ?_
  | with_reducible refine ev_ixS ?_
  | ((with_reducible refine ev_ixRaw (a := ?dla) (ns := ?dln) ?dlh ?dls ?_); (case dlh => exact rfl); (case dls => assumption))
  | with_reducible refine ev_ixL ?_
  | with_reducible refine ev_ixT ?_
  | with_reducible refine ev_slS ?_
  | with_reducible refine ev_addS ?_
  | with_reducible refine ev_mulS ?_
  | with_reducible refine ev_revS ?_
  | with_reducible refine ev_bl ?_
  | with_reducible refine ev_non ?_
  | with_reducible refine ev_ib ?_
  | with_reducible refine ev_eq ?_
  | with_reducible refine ev_ne ?_
  | with_reducible refine ev_neg ?_
  | with_reducible refine ev_tup ?_
  | with_reducible refine ev_abs ?_
  | with_reducible refine ev_gcd ?_
  | with_reducible refine ev_index ?_
  | with_reducible refine ev_max2 ?_
  | with_reducible refine ev_min2 ?_
  | with_reducible refine ev_sum ?_
  | with_reducible refine ev_all ?_
  | with_reducible refine ev_any ?_
  | with_reducible refine ev_if ?_
  | with_reducible refine ev_notV ?_
  | with_reducible refine ev_andV ?_
  | with_reducible refine ev_orV ?_
  | with_reducible refine ev_isNn ?_
  | with_reducible refine ev_notNn ?_
  | with_reducible refine ev_isBl ?_
  | with_reducible refine ev_notBl ?_
  | with_reducible refine ev_isV ?_
  | with_reducible refine ev_isiT ?_
  | with_reducible refine ev_isi ?_
  | with_reducible refine ev_chainS ?_
  | with_reducible refine ev_chainI ?_
  | with_reducible refine ev_ltS ?_
  | with_reducible refine ev_leS ?_
  | with_reducible refine ev_in ?_
  | with_reducible refine ev_join ?_
  | with_reducible refine ev_maxL ?_
  | with_reducible refine ev_minL ?_
  | with_reducible refine ev_eqD ?_
  | with_reducible refine ev_neD ?_
  | ((with_reducible refine ev_el ?_); walk_at "el1"))
local macro_rules | `(tactic| walk_at "wp1") => `(tactic| first
  | with_reducible refine wp_seq ?_
  | with_reducible refine nx_sq ?_
  | ((with_reducible refine wp_asgO ?_); first | with_reducible refine el_lst ?_ | with_reducible refine el_rep ?_)
  | with_reducible refine wp_asg ?_
  | with_reducible refine wp_if ?_
  | ((with_reducible refine wp_aug (a := ?dld) ?dlh ?_); (case dlh => exact rfl))
  | ((with_reducible refine wp_append (xs := ?dld) ?dlh ?_); (case dlh => exact rfl))
  | ((with_reducible refine wp_augL (xs := ?dld) ?dlh ?_); (case dlh => exact rfl))
  | ((with_reducible refine wp_setL (xs := ?dld) ?dlh ?_); (case dlh => exact rfl))
  | ((with_reducible refine wp_reverse (xs := ?dld) ?dlh ?_); (case dlh => exact rfl))
  | with_reducible refine wp_par ?_
  | with_reducible refine wp_try ?_
  | ((with_reducible refine wp_raise ?dlx ?_); (case dlx => assumption))
  | with_reducible refine wp_tup2 ?_
  | with_reducible refine wp_drop ?_
  | with_reducible refine wp_next ?_
  | with_reducible refine wp_break ?_
  | with_reducible refine wp_continue ?_
  | (refine wp_ret (Φ := ?dld) ?dlr ?_; (case dlr => assumption)))
local macro_rules | `(tactic| walk_at "lf1") => `(tactic| first
  | with_reducible refine eqT_int ?_ ?_
  | with_reducible refine eqT_str ?_ ?_
  | with_reducible refine eqT_bl ?_ ?_
  | with_reducible refine eqP_int ?_
  | with_reducible refine eqP_str ?_
  | with_reducible refine eqP_bl ?_
  | with_reducible refine neP_int ?_
  | with_reducible refine neP_str ?_
  | with_reducible refine neP_bl ?_
  | with_reducible refine lenP_l ?_
  | with_reducible refine lenP_t ?_
  | with_reducible refine ⟨_, _, rfl, rfl, ?_⟩
  | with_reducible refine ⟨_, rfl, ?_⟩
  | with_reducible refine ⟨_, _, rfl, ?_⟩
  | with_reducible refine Or.inl ⟨_, rfl, ?_⟩
  | with_reducible refine Or.inr ⟨_, rfl, ?_⟩
  | ((with_reducible refine And.intro ?dls ?_); (case dls => walk_at "side")))
local macro_rules | `(tactic| walk_at "w1") => `(tactic| first
  | ((with_reducible show Ev _ _ _ _ _); walk_at "ev1")
  | ((with_reducible show Ea _ _ _ _ _); first | with_reducible refine ea_cons ?_ | with_reducible refine ea_nil ?_)
  | ((with_reducible show Et _ _ _ _ _); walk_at "et1")
  | ((with_reducible show Es _ _ _ _); walk_at "es1")
  | ((with_reducible show Eo _ _ _ _); first | with_reducible refine eo_none ?_ | with_reducible refine eo_some ?_)
  | ((with_reducible show El _ _ _ _); walk_at "el1")
  | walk_at "wp1"
  | walk_at "lf1")
local macro_rules | `(tactic| walk_at "w") => `(tactic| repeat walk_at "w1")

theorem lit_periods : ("periods" : Str) = S [112, 101, 114, 105, 111, 100, 115] := by decide +kernel
theorem lit_letters : ("letters" : Str) = S [108, 101, 116, 116, 101, 114, 115] := by decide +kernel
theorem lit_word : ("word" : Str) = S [119, 111, 114, 100] := by decide +kernel
theorem lit_many : ("many" : Str) = S [109, 97, 110, 121] := by decide +kernel
theorem lit_none : ("none" : Str) = S [110, 111, 110, 101] := by decide +kernel
theorem lit_b : ("b" : Str) = S [98] := by decide +kernel
local macro_rules | `(tactic| walk_at "lit") => `(tactic| first | with_reducible exact lit_periods | with_reducible exact lit_letters | with_reducible exact lit_word | with_reducible exact lit_many | with_reducible exact lit_none | with_reducible exact lit_e0 | with_reducible exact lit_a | with_reducible exact lit_b | with_reducible exact lit_ab)
-- XT
abbrev sPeriods : List Nat := [112, 101, 114, 105, 111, 100, 115]
abbrev sLetters : List Nat := [108, 101, 116, 116, 101, 114, 115]
abbrev sWord : List Nat := [119, 111, 114, 100]
abbrev sMany : List Nat := [109, 97, 110, 121]
abbrev sNone : List Nat := [110, 111, 110, 101]
def Bad (a b : Int) : Prop := a < 2 ∨ b < 2 ∨ Nat.gcd a.natAbs b.natAbs ≠ 1
instance (a b : Int) : Decidable (Bad a b) := by unfold Bad; exact inferInstance
def rExt (c1 c2 : Addr) : RdX := fun args Φ Ψ => ∃ a b : Int, args = [.int a, .int b] ∧ (a.natAbs ≤ 1000 ∧ b.natAbs ≤ 1000) ∧ (Bad a b → Ψ c1 sPeriods) ∧ (¬ Bad a b → 400 < a + b → Ψ c2 sLetters) ∧
  ∀ p q u : Nat, a = p → b = q → p + q ≤ 400 → Ring p q u → Φ (.str (xw p q u))
def whyD (a b : Int) : Dt := if Bad a b then .tup [.str sWord, .str sPeriods] else if 400 < a + b then .tup [.str sMany, .str sLetters] else .tup [.str sNone, .str []]
def rWhy : Rd1 := fun args Φ => ∃ a b : Int, args = [.int a, .int b] ∧ (a.natAbs ≤ 1000 ∧ b.natAbs ≤ 1000) ∧ Φ (whyD a b)
def rHas : Rd1 := fun args Φ => ∃ (w : List Nat) (d : Nat), args = [.str w, .int d] ∧ w.length ≤ 10000 ∧ Φ (.bl (decide (w.drop d = w.take (w.length - d))))
def t_XT : Unit := ()
structure XT (K : PySem.W.Frag) (c_InvalidWord c_TooMany : Addr) : Prop where
  xc_InvalidWord : XC K c_InvalidWord
  xc_TooMany : XC K c_TooMany
  ex_InvalidWord_InvalidWord : PySem.W.exmOne K (.ref c_InvalidWord) (.ref c_InvalidWord) = some true
  ex_InvalidWord_TooMany : PySem.W.exmOne K (.ref c_InvalidWord) (.ref c_TooMany) = some false
  ex_TooMany_InvalidWord : PySem.W.exmOne K (.ref c_TooMany) (.ref c_InvalidWord) = some false
  ex_TooMany_TooMany : PySem.W.exmOne K (.ref c_TooMany) (.ref c_TooMany) = some true

def t_extremal_word (K : PySem.W.Frag) (c_InvalidWord c_TooMany : Addr) (E : XK) : TS :=
  (tSeq (tIfS (tOr (tTest (tOp (rI0 fun i j => .bl (decide (i < j))) (tVar 0) (tC (.int 2)))) (tOr (tTest (tOp (rI0 fun i j => .bl (decide (i < j))) (tVar 1) (tC (.int 2)))) (tTest (tOp rNe (tCB rGcd (tCons (tVar 0) (tCons (tVar 1) tNil))) (tC (.int 1)))))) (tRaise K (WOut E) c_InvalidWord (tCons (tC (.str "periods")) tNil)) tNext)
  (tSeq (tIfS (tTest (tOp (rI0 fun i j => .bl (decide (j < i))) (tOp (rI0 fun i j => .int (i + j)) (tVar 0) (tVar 1)) (tC (.int 400)))) (tRaise K (WOut E) c_TooMany (tCons (tC (.str "letters")) tNil)) tNext)
  (tSeq (tAsg (tOp (rI0 fun i j => .int (i - j)) (tOp (rI0 fun i j => .int (i + j)) (tVar 0) (tVar 1)) (tC (.int 2))) (gName 2))
  (tSeq (tAsg (tLstRg (tRg1 (tVar 2))) (gName 3))
  (tSeq (tFor (iTup K (tTup (tCons (tVar 0) (tCons (tVar 1) tNil)))) (gName 4) (tFor (iRng1 (tCons (tOp (rI0 fun i j => .int (i - j)) (tVar 2) (tVar 4)) tNil)) (gName 7) (tSeq (tPar 8 9 (tCons (tOp (rIxL K) (tVar 3) (tVar 7)) (tCons (tOp (rIxL K) (tVar 3) (tOp (rI0 fun i j => .int (i + j)) (tVar 7) (tVar 4))) tNil)))
  (tAsg (tLc (iList K (tVar 3)) (gName 6) tYes (tIf (tTest (tOp rEq (tVar 6) (tVar 9))) (tVar 8) (tVar 6)) [6]) (gName 3)))))
  (tSeq (tAsg (tLst tNil) (gName 5))
  (tSeq (tFor (iList K (tVar 3)) (gName 6) (tIfS (tTest (tOp (rIn K true) (tVar 6) (tVar 5))) (tDrop (tBM K "list" rAppend (tVar 5) (tCons (tVar 6) tNil))) tNext))
  (tRet (tBM K "str" (rJoin K) (tC (.str "")) (tCons (tLc (iList K (tVar 3)) (gName 6) tYes (tOp rIxS (tC (.str "ab")) (tBM K "list" (rIndex K) (tVar 5) (tCons (tVar 6) tNil))) [6]) tNil))))))))))

def t_law_why (K : PySem.W.Frag) (c_InvalidWord c_TooMany : Addr) : TS :=
  (tSeq (tTry K (fun W => (tDrop (tCallS (spX 2 (rExt c_InvalidWord c_TooMany)) (WE W) (tCons (tVar 0) (tCons (tVar 1) tNil))))) [(.ref c_InvalidWord, 2, fun a cls d => (tRet (tTup (tCons (tC (.str "word")) (tCons (tXf a cls d c_InvalidWord "what" (tVar 2)) tNil))))), (.ref c_TooMany, 2, fun a cls d => (tRet (tTup (tCons (tC (.str "many")) (tCons (tXf a cls d c_TooMany "what" (tVar 2)) tNil)))))])
  (tRet (tTup (tCons (tC (.str "none")) (tCons (tC (.str "")) tNil)))))

def t_law_has (K : PySem.W.Frag) : TS :=
  (tRet (tOp rEq (tSl rSlS (tVar 0) (tPart (tVar 1)) tNoPart) (tSl rSlS (tVar 0) tNoPart (tPart (tCB rMax2' (tCons (tC (.int 0)) (tCons (tOp (rI0 fun i j => .int (i - j)) (tCB rLenS (tCons (tVar 0) tNil)) (tVar 1)) tNil)))))))

def gl (n : Nat) (g : Nat → Nat) : List Int := (List.range n).map fun i => (g i : Int)
theorem gl_len (n : Nat) (g : Nat → Nat) : (gl n g).length = n := by unfold gl; rw [List.length_map, List.length_range]
theorem gl_get {n i : Nat} (g : Nat → Nat) (h : i < n) : (gl n g)[i]? = some (g i : Int) := by unfold gl; rw [List.getElem?_map, List.getElem?_range h]; rfl
theorem gl_merge (n : Nat) (g : Nat → Nat) (a b : Nat) : (gl n g).map (fun z => Dt.int (if z = (g b : Int) then (g a : Int) else z)) = (gl n (merge g a b)).map .int := by
  unfold gl
  rw [List.map_map, List.map_map]
  apply List.map_congr_left
  intro i _
  show Dt.int (if ((g i : Nat) : Int) = (g b : Int) then (g a : Int) else (g i : Int)) = Dt.int ((if g i = g b then g a else g i : Nat) : Int)
  by_cases h : g i = g b
  · rw [if_pos (by rw [h]), if_pos h]
  · rw [if_neg (fun z => h (by exact_mod_cast z)), if_neg h]
theorem w_law_has {K : PySem.W.Frag} : WpD (t_law_has K) 2 rHas := by
  rintro B Q args Φ ⟨w, d, rfl, hl, hΦ⟩ hr
  show Wp B (t_law_has K) [.dat (.str w), .dat (.int d)] (Top Q)
  unfold t_law_has
  walk_at "w"
  rw [cutL_drop _ (by omega), cutL_take _ (by omega), Int.toNat_natCast, show (max (0 : Int) ((w.length : Int) - d)).toNat = w.length - d by omega]
  exact hΦ
theorem w_extremal_word {K : PySem.W.Frag} {c1 c2 : Addr} (xt : XT K c1 c2) : WpX (t_extremal_word K c1 c2) 10 (rExt c1 c2) := by
  rintro B Q E args Φ Ψ ⟨a, b, rfl, hb, r1, r2, r3⟩ hr hx
  show Wp B (t_extremal_word K c1 c2 E) [.dat (.int a), .dat (.int b), .no, .no, .no, .no, .no, .no, .no, .no] (Top Q)
  unfold t_extremal_word
  have xc1 := xt.xc_InvalidWord
  have xc2 := xt.xc_TooMany
  walk_at "w"
  refine ⟨fun h => ?_, fun n1 => ?_⟩
  · walk_at "w"
    exact wx_out hx (r1 (.inl h))
  walk_at "w"
  refine ⟨fun h => ?_, fun n2 => ?_⟩
  · walk_at "w"
    exact wx_out hx (r1 (.inr (.inl h)))
  walk_at "w"
  rotate_left
  · intro h
    walk_at "w"
    exact wx_out hx (r1 (.inr (.inr (by exact_mod_cast h))))
  intro n3
  have nb : ¬ Bad a b := fun z => z.elim n1 fun z => z.elim n2 fun z => z (by exact_mod_cast n3)
  walk_at "w"
  refine ⟨fun h => ?_, fun n4 => ?_⟩
  · walk_at "w"
    exact wx_out hx (r2 nb h)
  clear r1 r2
  obtain ⟨p, rfl⟩ := Int.eq_ofNat_of_zero_le (show 0 ≤ a by omega)
  obtain ⟨q, rfl⟩ := Int.eq_ofNat_of_zero_le (show 0 ≤ b by omega)
  have n5 : Nat.gcd p q = 1 := by
    have h : Nat.gcd ((p : Int)).natAbs ((q : Int)).natAbs = 1 := by exact_mod_cast n3
    rwa [Int.natAbs_natCast, Int.natAbs_natCast] at h
  obtain ⟨u, R⟩ := ring_ex (p := p) (q := q) (by omega) (by omega) n5
  have hΦ := r3 p q u rfl rfl (by omega) R
  have p2 := R.p2
  have q2 := R.q2
  have en : (p : Int) + q - 2 = ((p + q - 2 : Nat) : Int) := by omega
  walk_at "w"
  rw [en]
  refine ⟨p + q - 2, rfl, by omega, ?_⟩
  have eg : ((List.range (p + q - 2)).map fun i : Nat => Dt.int i) = (gl (p + q - 2) fun i => i).map .int := by unfold gl; rw [List.map_map]; rfl
  rw [eg]
  refine nx_sq (wp_seq ?_)
  refine wp_rest (fun e => ∃ (g : Nat → Nat) (x4 x7 x8 x9 : Sl), e = [.dat (.int p), .dat (.int q), .dat (.int ((p + q - 2 : Nat) : Int)), .dat (.list ((gl (p + q - 2) g).map .int)), x4, .no, .no, x7, x8, x9] ∧ Sound p q u g ∧ Both p q g) ?_ (fun z hz => ?_)
  · rintro e ⟨g, x4, x7, x8, x9, rfl, hS, hB⟩
    walk_at "w"
    refine wp_forL ?_
    walk_at "w"
    refine ⟨fun k e => ∃ (ns : List Int) (x6 : Sl), e = [.dat (.int p), .dat (.int q), .dat (.int ((p + q - 2 : Nat) : Int)), .dat (.list ((gl (p + q - 2) g).map .int)), x4, .own (ns.map .int), x6, x7, x8, x9] ∧ (∀ xs, x6 ≠ .own xs) ∧
      ((k = 0 ∧ ns = []) ∨ (0 < k ∧ ns = [(g 0 : Int)] ∧ ∀ j, j < k → g j = g 0) ∨ ∃ i, i < p + q - 2 ∧ g i ≠ g 0 ∧ ns = [(g 0 : Int), (g i : Int)]), ?_, ?_, ?_⟩
    · exact ⟨[], _, rfl, (fun xs h => by cases h), .inl ⟨rfl, rfl⟩⟩
    · rintro G k d e hd ⟨ns, x6, rfl, -, hns⟩
      have hk : k < p + q - 2 := by
        have := (List.getElem?_eq_some_iff.mp hd).1
        rw [List.length_map, gl_len] at this
        exact this
      rw [List.getElem?_map, gl_get g hk] at hd
      cases hd
      have hnl : ns.length ≤ 2 := by rcases hns with ⟨-, rfl⟩ | ⟨-, rfl, -⟩ | ⟨i, -, -, rfl⟩ <;> simp
      walk_at "w"
      refine inP_int ?_
      refine ⟨_, rfl, fun hb => ?_, fun hb => ?_⟩
      · have hnot : ¬ (g k : Int) ∈ ns := by simpa using hb
        walk_at "w"
        refine nx_lo ⟨ns ++ [(g k : Int)], _, by rw [List.map_append]; rfl, (fun xs h => by cases h), ?_⟩
        rcases hns with ⟨rfl, rfl⟩ | ⟨h1, rfl, h2⟩ | ⟨i, h1, h2, rfl⟩
        · exact .inr (.inl ⟨by omega, rfl, fun j hj => by rw [show j = 0 by omega]⟩)
        · refine .inr (.inr ⟨k, hk, fun z => hnot (by rw [z]; exact List.mem_singleton.mpr rfl), rfl⟩)
        · exfalso
          apply hnot
          by_cases c : g k = g 0
          · rw [c]; exact List.mem_cons_self
          · rw [two_groups R hS hB hk h1 c h2]
            exact List.mem_cons_of_mem _ List.mem_cons_self
      · have hin : (g k : Int) ∈ ns := by simpa using hb
        walk_at "w"
        refine nx_lo ⟨ns, _, rfl, (fun xs h => by cases h), ?_⟩
        rcases hns with ⟨rfl, rfl⟩ | ⟨h1, rfl, h2⟩ | h
        · cases hin
        · refine .inr (.inl ⟨by omega, rfl, fun j hj => ?_⟩)
          by_cases c : j < k
          · exact h2 j c
          · have : j = k := by omega
            subst this
            have := List.mem_singleton.mp hin
            exact_mod_cast this
        · exact .inr (.inr h)
    · rintro e ⟨ns, x6, rfl, h6, hns⟩
      rw [List.length_map, gl_len] at hns
      have hidx : ∀ i, i < p + q - 2 → ∃ j : Nat, ns[j]? = some (g i : Int) ∧ (∀ k, k < j → ns[k]? ≠ some (g i : Int)) ∧ j < 2 ∧ ([97, 98] : List Nat)[j]? = some (if g i = g 0 then 97 else 98) := by
        intro i hi
        rcases hns with ⟨h, -⟩ | ⟨-, rfl, h⟩ | ⟨m, hm, hne, rfl⟩
        · omega
        · exact ⟨0, by rw [h i hi]; rfl, fun k hk => absurd hk (by omega), by omega, by rw [if_pos (h i hi)]; rfl⟩
        · by_cases c : g i = g 0
          · exact ⟨0, by rw [c]; rfl, fun k hk => absurd hk (by omega), by omega, by rw [if_pos c]; rfl⟩
          · refine ⟨1, by rw [two_groups R hS hB hi hm c hne]; rfl, fun k hk => ?_, by omega, by rw [if_neg c]; rfl⟩
            have : k = 0 := by omega
            subst this
            intro z
            have z := Option.some.inj z
            exact c (by exact_mod_cast z.symm)
      refine nx_sq ?_
      walk_at "w"
      refine ev_el (el_lcL (fun ys h => h6 ys (Option.some.inj h)) ?_)
      walk_at "w"
      refine ⟨fun i acc => acc = ((List.range i).map fun i => [if g i = g 0 then 97 else 98]).map .str, rfl, fun i d hd acc ha => ?_, fun acc ha => ?_⟩
      · subst ha
        have hi : i < p + q - 2 := by
          have := (List.getElem?_eq_some_iff.mp hd).1
          rw [List.length_map, gl_len] at this
          exact this
        rw [List.getElem?_map, gl_get g hi] at hd
        cases hd
        obtain ⟨j, j1, j2, j3, j4⟩ := hidx i hi
        walk_at "w"
        refine ⟨ns, _, j, rfl, rfl, j1, j2, ?_⟩
        refine ⟨_, _, _, rfl, rfl, by simp, atI_nn (by omega) (by rw [Int.toNat_natCast]; exact j4), ?_⟩
        refine ⟨by rw [List.length_map, List.length_map, List.length_range]; omega, ?_⟩
        show _ = _
        rw [List.range_succ, List.map_append, List.map_append]
        rfl
      · subst ha
        rw [List.length_map, gl_len]
        walk_at "w"
        rw [joinL_nil, show ((List.range (p + q - 2)).map fun i => [if g i = g 0 then 97 else 98]).flatten = (List.range (p + q - 2)).map (fun i => if g i = g 0 then 97 else 98) from ?_, final_word R hS hB]
        · refine ⟨?_, hΦ⟩
          rw [List.map_map, List.length_map, List.length_range]
          have : ∀ m : Nat, (List.map (List.length ∘ fun i => [if g i = g 0 then 97 else 98]) (List.range m)).sum = m := fun m => by
            induction m with
            | zero => rfl
            | succ m ih => rw [List.range_succ, List.map_append, List.sum_append, ih]; rfl
          rw [this]
          simp
          omega
        · generalize p + q - 2 = m
          induction m with
          | zero => rfl
          | succ m ih => rw [List.range_succ, List.map_append, List.flatten_append, ih, List.map_append]; rfl
  · refine wp_forT ?_
    walk_at "w"
    refine ⟨fun k e => ∃ (g : Nat → Nat) (x4 x7 x8 x9 : Sl), e = [.dat (.int p), .dat (.int q), .dat (.int ((p + q - 2 : Nat) : Int)), .dat (.list ((gl (p + q - 2) g).map .int)), x4, .no, .no, x7, x8, x9] ∧ Sound p q u g ∧ (1 ≤ k → ∀ i, i + p < p + q - 2 → g i = g (i + p)) ∧ (2 ≤ k → ∀ i, i + q < p + q - 2 → g i = g (i + q)), ?_, ?_, ?_⟩
    · exact ⟨_, _, _, _, _, rfl, fun i j _ _ e => by rw [show i = j from e], fun h => absurd h (by omega), fun h => absurd h (by omega)⟩
    · rintro G k d e hd ⟨g, x4, x7, x8, x9, rfl, hS, hP, hQ⟩
      obtain ⟨t, rfl, ht⟩ : ∃ t : Nat, d = .int t ∧ ((k = 0 ∧ t = p) ∨ (k = 1 ∧ t = q)) := by
        match k, hd with
        | 0, hd => exact ⟨p, (Option.some.inj hd).symm, .inl ⟨rfl, rfl⟩⟩
        | 1, hd => exact ⟨q, (Option.some.inj hd).symm, .inr ⟨rfl, rfl⟩⟩
        | k + 2, hd => simp at hd
      have hside : ∀ i, i + t < p + q - 2 → side p q u i = side p q u (i + t) := by
        rcases ht with ⟨-, rfl⟩ | ⟨-, rfl⟩
        · exact (side_both R).1
        · exact (side_both R).2
      refine wp_forR1 ?_
      walk_at "w"
      refine ⟨fun i e => ∃ (g' : Nat → Nat) (x7 x8 x9 : Sl), e = [.dat (.int p), .dat (.int q), .dat (.int ((p + q - 2 : Nat) : Int)), .dat (.list ((gl (p + q - 2) g').map .int)), .dat (.int t), .no, .no, x7, x8, x9] ∧ Sound p q u g' ∧ (1 ≤ k → ∀ i, i + p < p + q - 2 → g' i = g' (i + p)) ∧ (∀ j, j < i → j + t < p + q - 2 → g' j = g' (j + t)), ⟨g, _, _, _, rfl, hS, hP, fun j h => absurd h (by omega)⟩, ?_, ?_⟩
      · rintro i d e hi rfl ⟨g', x7, x8, x9, rfl, hS', hP', hT⟩
        have hit : i + t < p + q - 2 := by omega
        walk_at "w"
        refine leaf_ixI (by omega) (by rw [gl_len]; omega) fun z hz => ?_
        rw [Int.toNat_natCast, gl_get g' (by omega)] at hz
        cases hz
        walk_at "w"
        refine leaf_ixI (by omega) (by rw [gl_len]; omega) fun z hz => ?_
        rw [show ((i : Int) + t).toNat = i + t by omega, gl_get g' hit] at hz
        cases hz
        walk_at "w"
        refine ev_el (el_lcL (fun ys h => by cases h) ?_)
        walk_at "w"
        refine ct_mapI (f := fun z => Dt.int (if z = (g' (i + t) : Int) then (g' i : Int) else z)) (by rw [gl_len]; omega) (fun j z hz => ?_) ?_
        · walk_at "w"
          · intro h
            walk_at "w"
            show _ = _
            rw [if_pos h]
          · intro h
            walk_at "w"
            show _ = _
            rw [if_neg h]
        · rw [gl_merge]
          refine nx_lo ⟨merge g' i (i + t), _, _, _, rfl, merge_sound hS' (by omega) hit (hside i hit), fun h1 j hj => merge_keep (hP' h1 j hj), fun j hj hjt => ?_⟩
          rcases Nat.lt_or_ge j i with c | c
          · exact merge_keep (hT j c hjt)
          · have : j = i := by omega
            subst this
            exact merge_join g' j (j + t)
      · rintro e ⟨g', x7, x8, x9, rfl, hS', hP', hT⟩
        refine nx_lo ⟨g', _, _, _, _, rfl, hS', ?_, ?_⟩
        · intro _ i hi
          rcases ht with ⟨rfl, rfl⟩ | ⟨rfl, rfl⟩
          · exact hT i (by omega) hi
          · exact hP' (by omega) i hi
        · intro h2 i hi
          rcases ht with ⟨rfl, rfl⟩ | ⟨rfl, rfl⟩
          · omega
          · exact hT i (by omega) hi
    · rintro e ⟨g, x4, x7, x8, x9, rfl, hS, hP, hQ⟩
      exact hz _ ⟨g, _, _, _, _, rfl, hS, hP (by simp), hQ (by simp)⟩
theorem w_law_why {K : PySem.W.Frag} {c1 c2 : Addr} (xt : XT K c1 c2) : WpD (t_law_why K c1 c2) 3 rWhy := by
  rintro B Q args Φ ⟨a, b, rfl, hb, hΦ⟩ hr
  show Wp B (t_law_why K c1 c2) [.dat (.int a), .dat (.int b), .no] (Top Q)
  unfold t_law_why
  walk_at "w"
  refine ⟨a, b, rfl, hb, fun h => ?_, fun h1 h2 => ?_, fun p q u e1 e2 h3 R => ?_⟩
  · refine wx_take xt.ex_InvalidWord_InvalidWord fun ad dx G hG => ?_
    have hΦ' : Φ (.tup [.str sWord, .str sPeriods]) := by unfold whyD at hΦ; rwa [if_pos h] at hΦ
    walk_at "w"
    refine ev_what hG rfl ?_
    walk_at "w"
    exact hΦ'
  · refine wx_skip xt.ex_TooMany_InvalidWord (wx_take xt.ex_TooMany_TooMany fun ad dx G hG => ?_)
    have hΦ' : Φ (.tup [.str sMany, .str sLetters]) := by unfold whyD at hΦ; rwa [if_neg h1, if_pos h2] at hΦ
    walk_at "w"
    refine ev_what hG rfl ?_
    walk_at "w"
    exact hΦ'
  · have hΦ' : Φ (.tup [.str sNone, .str []]) := by
      have := R.p2
      have := R.q2
      have := M02.coprime R
      unfold whyD at hΦ
      rwa [if_neg (by unfold Bad; subst e1 e2; simp only [Int.natAbs_natCast]; omega), if_neg (by omega)] at hΦ
    walk_at "w"
    exact hΦ'
end DL

set_option Elab.async false
set_option linter.all false
set_option maxRecDepth 100000
set_option maxHeartbeats 4000000
set_option autoImplicit false
namespace DL
open PySem PySem.Spec PyProof.Rows L2 M00 M02 SG DX
local macro_rules | `(tactic| walk_at "lit") => `(tactic| fail "lit")
local macro_rules | `(tactic| walk_at "side") => `(tactic| first | omega | (simp only [CMul, CDiv, CPow, List.length_nil, List.length_cons, List.length_map, List.length_append, List.length_replicate]; omega) | decide | (simp; done) | (simp; omega))
local macro_rules | `(tactic| walk_at "es1") => `(tactic| first
  | ((with_reducible refine es_own (xs := ?dld) ?dlh ?_); (case dlh => exact rfl))
  | ((with_reducible refine es_el ?_); walk_at "el1")
  | with_reducible refine es_ev ?_)
local macro_rules | `(tactic| walk_at "el1") => `(tactic| first
  | with_reducible refine el_lst ?_
  | with_reducible refine el_cat ?_
  | with_reducible refine el_rep ?_
  | with_reducible refine el_listOf ?_
  | with_reducible refine el_revL ?_
  | with_reducible refine el_slL ?_
  | with_reducible refine el_sortedI ?_
  | with_reducible refine el_listRg1 ?_
  | with_reducible refine el_sortedSetS ?_
  | with_reducible refine el_sortedSetT ?_
  | with_reducible refine el_call ?_)
local macro_rules | `(tactic| walk_at "et1") => `(tactic| first
  | with_reducible refine et_ib ?_
  | with_reducible refine et_eq ?_
  | with_reducible refine et_ne ?_
  | with_reducible refine et_and ?_
  | with_reducible refine et_or ?_
  | with_reducible refine et_not ?_
  | with_reducible refine et_ltS ?_
  | with_reducible refine et_gtS ?_
  | with_reducible refine et_leS ?_
  | with_reducible refine et_geS ?_
  | with_reducible refine et_yes ?_
  | with_reducible refine et_test ?_
  | with_reducible refine et_B ?_)
local macro_rules | `(tactic| walk_at "ev1") => `(tactic| first
  | ((with_reducible refine ev_var (d := ?dld) ?dlh ?_); (case dlh => exact rfl))
  | with_reducible refine ev_int ?_
  | with_reducible refine ev_ii ?_
  | with_reducible refine ev_iiC ?_
  | ((with_reducible refine ev_own (xs := ?dld) ?dlh ?_); (case dlh => exact rfl))
  | ((with_reducible refine ev_str (x := ?dld) ?dlh ?_); (case dlh => walk_at "lit"))
  | with_reducible refine ev_int1 ?_
  | with_reducible refine ev_call ?_
  | with_reducible refine ev_callN ?_
  | with_reducible refine ev_callS ?_
  | ((with_reducible refine ev_what (by assumption) (by exact rfl) ?_))
  | with_reducible refine ev_lenS ?_
  | ((with_reducible refine ev_lenRaw (a := ?dla) (ns := ?dln) ?dlh ?dls ?_); (case dlh => exact rfl); (case dls => assumption))
  | with_reducible refine ev_lenL ?_
  | with_reducible refine ev_ixS ?_
  | ((with_reducible refine ev_ixRaw (a := ?dla) (ns := ?dln) ?dlh ?dls ?_); (case dlh => exact rfl); (case dls => assumption))
  | with_reducible refine ev_ixL ?_
  | with_reducible refine ev_ixT ?_
  | with_reducible refine ev_slS ?_
  | with_reducible refine ev_addS ?_
  | with_reducible refine ev_mulS ?_
  | with_reducible refine ev_revS ?_
  | with_reducible refine ev_bl ?_
  | with_reducible refine ev_non ?_
  | with_reducible refine ev_ib ?_
  | with_reducible refine ev_eq ?_
  | with_reducible refine ev_ne ?_
  | with_reducible refine ev_neg ?_
  | with_reducible refine ev_tup ?_
  | with_reducible refine ev_abs ?_
  | with_reducible refine ev_gcd ?_
  | with_reducible refine ev_index ?_
  | with_reducible refine ev_max2 ?_
  | with_reducible refine ev_min2 ?_
  | with_reducible refine ev_sum ?_
  | with_reducible refine ev_all ?_
  | with_reducible refine ev_any ?_
  | with_reducible refine ev_if ?_
  | with_reducible refine ev_notV ?_
  | with_reducible refine ev_andV ?_
  | with_reducible refine ev_orV ?_
  | with_reducible refine ev_isNn ?_
  | with_reducible refine ev_notNn ?_
  | with_reducible refine ev_isBl ?_
  | with_reducible refine ev_notBl ?_
  | with_reducible refine ev_isV ?_
  | with_reducible refine ev_isiT ?_
  | with_reducible refine ev_isi ?_
  | with_reducible refine ev_chainS ?_
  | with_reducible refine ev_chainI ?_
  | with_reducible refine ev_ltS ?_
  | with_reducible refine ev_leS ?_
  | with_reducible refine ev_in ?_
  | with_reducible refine ev_join ?_
  | with_reducible refine ev_maxL ?_
  | with_reducible refine ev_minL ?_
  | with_reducible refine ev_eqD ?_
  | with_reducible refine ev_neD ?_
  | ((with_reducible refine ev_el ?_); walk_at "el1"))
local macro_rules | `(tactic| walk_at "wp1") => `(tactic| first
  | with_reducible refine wp_seq ?_
  | with_reducible refine nx_sq ?_
  | ((with_reducible refine wp_asgO ?_); first | with_reducible refine el_lst ?_ | with_reducible refine el_rep ?_)
  | with_reducible refine wp_asg ?_
  | with_reducible refine wp_if ?_
  | ((with_reducible refine wp_aug (a := ?dld) ?dlh ?_); (case dlh => exact rfl))
  | ((with_reducible refine wp_append (xs := ?dld) ?dlh ?_); (case dlh => exact rfl))
  | ((with_reducible refine wp_augL (xs := ?dld) ?dlh ?_); (case dlh => exact rfl))
  | ((with_reducible refine wp_setL (xs := ?dld) ?dlh ?_); (case dlh => exact rfl))
  | ((with_reducible refine wp_reverse (xs := ?dld) ?dlh ?_); (case dlh => exact rfl))
  | with_reducible refine wp_par ?_
  | with_reducible refine wp_try ?_
  | ((with_reducible refine wp_raise ?dlx ?_); (case dlx => assumption))
  | with_reducible refine wp_tup2 ?_
  | with_reducible refine wp_drop ?_
  | with_reducible refine wp_next ?_
  | with_reducible refine wp_break ?_
  | with_reducible refine wp_continue ?_
  | (refine wp_ret (Φ := ?dld) ?dlr ?_; (case dlr => assumption)))
local macro_rules | `(tactic| walk_at "lf1") => `(tactic| first
  | with_reducible refine eqT_int ?_ ?_
  | with_reducible refine eqT_str ?_ ?_
  | with_reducible refine eqT_bl ?_ ?_
  | with_reducible refine eqP_int ?_
  | with_reducible refine eqP_str ?_
  | with_reducible refine eqP_bl ?_
  | with_reducible refine neP_int ?_
  | with_reducible refine neP_str ?_
  | with_reducible refine neP_bl ?_
  | with_reducible refine lenP_l ?_
  | with_reducible refine lenP_t ?_
  | with_reducible refine ⟨_, _, rfl, rfl, ?_⟩
  | with_reducible refine ⟨_, rfl, ?_⟩
  | with_reducible refine ⟨_, _, rfl, ?_⟩
  | with_reducible refine Or.inl ⟨_, rfl, ?_⟩
  | with_reducible refine Or.inr ⟨_, rfl, ?_⟩
  | ((with_reducible refine And.intro ?dls ?_); (case dls => walk_at "side")))
local macro_rules | `(tactic| walk_at "w1") => `(tactic| first
  | ((with_reducible show Ev _ _ _ _ _); walk_at "ev1")
  | ((with_reducible show Ea _ _ _ _ _); first | with_reducible refine ea_cons ?_ | with_reducible refine ea_nil ?_)
  | ((with_reducible show Et _ _ _ _ _); walk_at "et1")
  | ((with_reducible show Es _ _ _ _); walk_at "es1")
  | ((with_reducible show Eo _ _ _ _); first | with_reducible refine eo_none ?_ | with_reducible refine eo_some ?_)
  | ((with_reducible show El _ _ _ _); walk_at "el1")
  | walk_at "wp1"
  | walk_at "lf1")
local macro_rules | `(tactic| walk_at "w") => `(tactic| repeat walk_at "w1")

local macro_rules | `(tactic| walk_at "lit") => `(tactic| first | with_reducible exact lit_periods | with_reducible exact lit_letters | with_reducible exact lit_word | with_reducible exact lit_many | with_reducible exact lit_none | with_reducible exact lit_e0 | with_reducible exact lit_a | with_reducible exact lit_b | with_reducible exact lit_ab)
theorem neD_no {b : Bool} {P : Dt → Prop} (h : b = true) (hp : P (.bl false)) : P (.bl (!b)) := by rw [h]; exact hp
theorem eqD_yes {b : Bool} {P : Dt → Prop} (h : b = true) (hp : P (.bl true)) : P (.bl b) := by rw [h]; exact hp
theorem kbSS : kitB "str" "str" = some true := by decide +kernel
theorem isi_str_str {z : List Nat} {P : Dt → Prop} (h : P (.bl true)) : IsiP "str" P (.str z) := isi_i trivial kbSS h
theorem why_i {a b : Int} {Φ : Dt → Prop} (hq : a.natAbs ≤ 1000 ∧ b.natAbs ≤ 1000) (h : Φ (whyD a b)) : rWhy [.int a, .int b] Φ := ⟨a, b, rfl, hq, h⟩
theorem ext_i {c1 c2 : Addr} {a b : Int} {p q u : Nat} {Φ : Dt → Prop} {Ψ : Addr → List Nat → Prop} (ea : a = p) (eb : b = q) (R : Ring p q u) (h : p + q ≤ 400) (hΦ : Φ (.str (xw p q u))) : rExt c1 c2 [.int a, .int b] Φ Ψ := by
  have h1 := R.p2
  have h2 := R.q2
  have h3 := M02.coprime R
  subst ea eb
  have nb : ¬ Bad (p : Int) (q : Int) := by unfold Bad; simp only [Int.natAbs_natCast]; omega
  refine ⟨_, _, rfl, by omega, fun z => absurd z nb, fun _ z => absurd z (by omega), fun p' q' u' e1 e2 _ R' => ?_⟩
  have e1 : p = p' := by omega
  have e2 : q = q' := by omega
  subst e1 e2
  have : xw p q u' = xw p q u := by
    obtain ⟨v, R2⟩ := ring_ex h2 h1 (by rw [Nat.gcd_comm]; exact h3)
    rw [← swap R' R2, swap R R2]
  rw [this]
  exact hΦ
theorem has_i {w : List Nat} {d : Int} {d' : Nat} {Φ : Dt → Prop} (e : d = d') (hl : w.length ≤ 10000) (h1 : 1 ≤ d') (h2 : d' ≤ w.length) (hΦ : ∀ b : Bool, (b = true ↔ Pd w d') → Φ (.bl b)) : rHas [.str w, .int d] Φ :=
  ⟨w, d', by rw [e], hl, hΦ _ (by rw [decide_eq_true_eq]; exact has_iff h1 h2)⟩
def t_law (K : PySem.W.Frag) (c_InvalidWord c_TooMany : Addr) : TS :=
  (tSeq (tAsg (tCall (spDeck K) [] E0 (tCons (tVar 0) (tCons (tC (.int 6)) (tCons (tC (.int 14)) tNil)))) (gName 1))
  (tSeq (tAsg (tCall (spD 2 rTake) [] E0 (tCons (tVar 1) (tCons (tC (.int 201)) tNil))) (gName 2))
  (tSeq (tAsg (tCall (spD 2 rTake) [] E0 (tCons (tVar 1) (tCons (tC (.int 201)) tNil))) (gName 3))
  (tSeq (tIfS (tTest (tOp rEq (tCall (spD 2 rTake) [] E0 (tCons (tVar 1) (tCons (tC (.int 2)) tNil))) (tC (.int 0)))) (tSeq (tAsg (tOp (rI0 fun i j => .int (i + j)) (tC (.int 2)) (tCall (spD 2 rTake) [] E0 (tCons (tVar 1) (tCons (tC (.int 395)) tNil)))) (gName 2))
  (tAsg (tOp (rI0 fun i j => .int (i - j)) (tOp (rI0 fun i j => .int (i + j)) (tC (.int 399)) (tCall (spD 2 rTake) [] E0 (tCons (tVar 1) (tCons (tC (.int 3)) tNil)))) (tVar 2)) (gName 3))) tNext)
  (tSeq (tIfS (tOr (tTest (tOp (rI0 fun i j => .bl (decide (i < j))) (tVar 2) (tC (.int 2)))) (tOr (tTest (tOp (rI0 fun i j => .bl (decide (i < j))) (tVar 3) (tC (.int 2)))) (tTest (tOp rNe (tCall (spD 2 rDivisor) [] E0 (tCons (tVar 2) (tCons (tVar 3) tNil))) (tC (.int 1)))))) (tRet (tOp (rEqD K) (tCall (spD 2 rWhy) [] E0 (tCons (tVar 2) (tCons (tVar 3) tNil))) (tTup (tCons (tC (.str "word")) (tCons (tC (.str "periods")) tNil))))) tNext)
  (tSeq (tIfS (tTest (tOp (rI0 fun i j => .bl (decide (j < i))) (tOp (rI0 fun i j => .int (i + j)) (tVar 2) (tVar 3)) (tC (.int 400)))) (tRet (tAndV (tOp (rEqD K) (tCall (spD 2 rWhy) [] E0 (tCons (tVar 2) (tCons (tVar 3) tNil))) (tTup (tCons (tC (.str "many")) (tCons (tC (.str "letters")) tNil)))) (tOp (rEqD K) (tCall (spD 2 rWhy) [] E0 (tCons (tVar 2) (tCons (tVar 2) tNil))) (tTup (tCons (tC (.str "word")) (tCons (tC (.str "periods")) tNil)))))) tNext)
  (tSeq (tAsg (tCall (spX 2 (rExt c_InvalidWord c_TooMany)) [] E0 (tCons (tVar 2) (tCons (tVar 3) tNil))) (gName 4))
  (tSeq (tIfS (tOr (tNot (tB (tCB (rIsi K) (tCons (tVar 4) (tCons (tC (.ty "str")) tNil))))) (tOr (tTest (tOp rNe (tCB rLenS (tCons (tVar 4) tNil)) (tOp (rI0 fun i j => .int (i - j)) (tOp (rI0 fun i j => .int (i + j)) (tVar 2) (tVar 3)) (tC (.int 2))))) (tTest (tOp rNe (tSl rSlS (tVar 4) tNoPart (tPart (tC (.int 1)))) (tC (.str "a")))))) (tRet (tC (.bl false))) tNext)
  (tSeq (tIfS (tOr (tTest (tOp (rNeD K) (tSortedSetT (tVar 4)) (tLst (tCons (tC (.str "a")) (tCons (tC (.str "b")) tNil))))) (tOr (tTest (tOp rNe (tVar 4) (tRevS (tVar 4)))) (tTest (tOp rNe (tCall (spX 2 (rExt c_InvalidWord c_TooMany)) [] E0 (tCons (tVar 3) (tCons (tVar 2) tNil))) (tVar 4))))) (tRet (tC (.bl false))) tNext)
  (tSeq (tFor (iTup K (tTup (tCons (tOp (rI0 fun i j => .int (i - j)) (tVar 2) (tC (.int 2))) (tCons (tOp (rI0 fun i j => .int (i - j)) (tVar 3) (tC (.int 2))) tNil)))) (gName 5) (tIfS (tTest (tOp rNe (tSl rSlS (tVar 4) tNoPart (tPart (tVar 5))) (tRevS (tSl rSlS (tVar 4) tNoPart (tPart (tVar 5)))))) (tRet (tC (.bl false))) tNext))
  (tSeq (tIfS (tOr (tNot (tB (tCall (spD 2 rHas) [] E0 (tCons (tVar 4) (tCons (tVar 2) tNil))))) (tOr (tNot (tB (tCall (spD 2 rHas) [] E0 (tCons (tVar 4) (tCons (tVar 3) tNil))))) (tB (tCall (spD 2 rHas) [] E0 (tCons (tVar 4) (tCons (tC (.int 1)) tNil)))))) (tRet (tC (.bl false))) tNext)
  (tSeq (tIfS (tOr (tTest (tOp rNe (tCall (spD 1 rLeastPeriod) [] E0 (tCons (tVar 4) tNil)) (tCB rMin2' (tCons (tVar 2) (tCons (tVar 3) tNil))))) (tAnd (tTest (tOp (rIn K true) (tVar 2) (tCall (spD 1 rPeriods) [] E0 (tCons (tVar 4) tNil)))) (tTest (tOp (rI0 fun i j => .bl (decide (i < j))) (tVar 2) (tOp (rI0 fun i j => .int (i + j)) (tCB rLenS (tCons (tVar 4) tNil)) (tC (.int 1))))))) (tRet (tC (.bl false))) tNext)
  (tSeq (tFor (iTup K (tTup (tCons (tOp rAddS (tVar 4) (tC (.str "a"))) (tCons (tOp rAddS (tVar 4) (tC (.str "b"))) (tCons (tOp rAddS (tC (.str "a")) (tVar 4)) (tCons (tOp rAddS (tC (.str "b")) (tVar 4)) tNil)))))) (gName 6) (tIfS (tAnd (tB (tCall (spD 2 rHas) [] E0 (tCons (tVar 6) (tCons (tVar 2) tNil)))) (tB (tCall (spD 2 rHas) [] E0 (tCons (tVar 6) (tCons (tVar 3) tNil))))) (tRet (tC (.bl false))) tNext))
  (tRet (tC (.bl true))))))))))))))))

theorem w_law {K : PySem.W.Frag} {c1 c2 : Addr} (xt : XT K c1 c2) : WpLaw K (t_law K c1 c2) 7 := by
  intro B Q a ns hS hl hΦ
  show Wp B (t_law K c1 c2) [.dat (.raw a), .no, .no, .no, .no, .no, .no] (Top Q)
  have hr := rt_law (B := B) hΦ
  unfold t_law
  refine wp_seq ?_
  refine wp_asg (ev_deck (i := 0) rfl hS (by omega) (by omega) (by omega) ?_)
  walk_at "w"
  refine take_i (by omega) fun x x0 x1 => ?_
  walk_at "w"
  refine take_i (by omega) fun y y0 y1 => ?_
  refine nx_sq (wp_seq ?_)
  refine wp_rest (fun e => ∃ x y : Int, (x.natAbs ≤ 1000 ∧ y.natAbs ≤ 1000) ∧ e = [.dat (.raw a), .dat .deck, .dat (.int x), .dat (.int y), .no, .no, .no]) ?_ (fun u hu => ?_)
  · clear x0 x1 y0 y1 x y
    rintro e ⟨x, y, hxy, rfl⟩
    have hbad : Bad x y → Wp B (tRet (tOp (rEqD K) (tCall (spD 2 rWhy) [] E0 (tCons (tVar 2) (tCons (tVar 3) tNil))) (tTup (tCons (tC (.str "word")) (tCons (tC (.str "periods")) tNil))))) [.dat (.raw a), .dat .deck, .dat (.int x), .dat (.int y), .no, .no, .no] (Top Q) := fun hb => by
      walk_at "w"
      refine why_i hxy ?_
      rw [show whyD x y = .tup [.str sWord, .str sPeriods] from if_pos hb]
      walk_at "w"
      refine ⟨⟨by decide +kernel, by decide +kernel, by decide +kernel, by decide +kernel⟩, ?_⟩
      exact eqD_yes (P := fun d => d = Dt.bl true) (by decide +kernel) rfl
    walk_at "w"
    refine ⟨fun h => hbad (.inl h), fun n1 => ?_⟩
    walk_at "w"
    refine ⟨fun h => hbad (.inr (.inl h)), fun n2 => ?_⟩
    walk_at "w"
    refine divisor_i (by omega) ?_
    walk_at "w"
    rotate_left
    · intro h
      exact hbad (.inr (.inr fun z => h (by show ((Nat.gcd x.natAbs y.natAbs : Nat) : Int) = 1; rw [z]; rfl)))
    intro n3
    have n3' : Nat.gcd x.natAbs y.natAbs = 1 := by
      have : ((Nat.gcd x.natAbs y.natAbs : Nat) : Int) = 1 := n3
      exact_mod_cast this
    have nb : ¬ Bad x y := fun z => z.elim n1 fun z => z.elim n2 fun z => z n3'
    walk_at "w"
    refine ⟨fun h4 => ?_, fun n4 => ?_⟩
    · walk_at "w"
      refine why_i hxy ?_
      rw [show whyD x y = .tup [.str sMany, .str sLetters] by unfold whyD; rw [if_neg nb, if_pos h4]]
      walk_at "w"
      refine ⟨⟨by decide +kernel, by decide +kernel, by decide +kernel, by decide +kernel⟩, ?_⟩
      refine eqD_yes (P := fun d => ∃ b, d = Dt.bl b ∧ (b = true → _) ∧ (b = false → _)) (by decide +kernel) (tB_yes ?_)
      have hbx : Bad x x := .inr (.inr fun z => by rw [Nat.gcd_self] at z; omega)
      walk_at "w"
      refine why_i ⟨hxy.1, hxy.1⟩ ?_
      rw [show whyD x x = .tup [.str sWord, .str sPeriods] from if_pos hbx]
      walk_at "w"
      refine ⟨⟨by decide +kernel, by decide +kernel, by decide +kernel, by decide +kernel⟩, ?_⟩
      exact eqD_yes (P := fun d => d = Dt.bl true) (by decide +kernel) rfl
    · obtain ⟨p, rfl⟩ := Int.eq_ofNat_of_zero_le (show 0 ≤ x by omega)
      obtain ⟨q, rfl⟩ := Int.eq_ofNat_of_zero_le (show 0 ≤ y by omega)
      rw [Int.natAbs_natCast, Int.natAbs_natCast] at n3'
      obtain ⟨u, R⟩ := ring_ex (p := p) (q := q) (by omega) (by omega) n3'
      obtain ⟨v, R'⟩ := ring_ex (p := q) (q := p) (by omega) (by omega) (by rw [Nat.gcd_comm]; exact n3')
      have p2 := R.p2
      have q2 := R.q2
      have hxl := xw_len R
      have hlets : Lets (xw p q u) := xw_lets R
      walk_at "w"
      refine ext_i rfl rfl R (by omega) ?_
      walk_at "w"
      refine isi_str_str (tB_yes ?_)
      walk_at "w"
      rotate_left
      · intro h
        rw [hxl] at h
        exact absurd (by omega) h
      intro _
      have hcut : cutL (xw p q u) none (some 1) = [97] := by rw [cutL_take _ (by omega), show Int.toNat 1 = 1 from rfl, xw_head R]
      walk_at "w"
      rotate_left
      · exact fun h => absurd hcut h
      intro _
      walk_at "w"
      intro ys k1 k2
      have eys : ys = [[97], [98]] := M01.asc_uniq k1 (by decide) fun z => by
        rw [k2, xw_mem R]
        simp
      subst eys
      walk_at "w"
      refine ⟨⟨by decide +kernel, by decide +kernel, by decide +kernel, by decide +kernel⟩, ?_⟩
      refine neD_no (P := fun d => ∃ b, d = Dt.bl b ∧ (b = true → _) ∧ (b = false → _)) (by decide +kernel) (tB_no ?_)
      walk_at "w"
      rotate_left
      · exact fun h => absurd (xw_rev R).symm h
      intro _
      walk_at "w"
      refine ext_i rfl rfl R' (by omega) ?_
      rw [swap R R']
      walk_at "w"
      rotate_left
      · exact fun h => absurd rfl h
      intro _
      refine wp_next (nx_sq (wp_seq ?_))
      refine wp_rest (fun e => ∃ x5, e = [.dat (.raw a), .dat .deck, .dat (.int p), .dat (.int q), .dat (.str (xw p q u)), x5, .no]) ?_ (fun u' hu' => ?_)
      · rintro e ⟨x5, rfl⟩
        walk_at "w"
        refine has_i rfl (by omega) (by omega) (by omega) fun b hb => ?_
        rw [hb.mpr (xw_p R)]
        refine tB_yes ?_
        walk_at "w"
        refine has_i rfl (by omega) (by omega) (by omega) fun b hb => ?_
        rw [hb.mpr (xw_q R)]
        refine tB_yes ?_
        walk_at "w"
        refine has_i (d' := 1) rfl (by omega) (by omega) (by omega) fun b hb => ?_
        have hb1 : b = false := by
          cases b with
          | false => rfl
          | true => exact absurd (hb.mp rfl) (not_one R)
        rw [hb1]
        refine tB_no ?_
        walk_at "w"
        refine leastPeriod_i (by omega) hlets (fun z => by rw [z] at hxl; simp at hxl; omega) fun m hm hL => ?_
        have hmin : (m : Int) = min (p : Int) (q : Int) := by
          have h1 := hL.2 p (xw_p R)
          have h2 := hL.2 q (xw_q R)
          have h3 := least_pq R hL.1
          omega
        walk_at "w"
        rotate_left
        · exact fun h => absurd hmin h
        intro _
        walk_at "w"
        refine periods_i (by omega) hlets ?_
        walk_at "w"
        refine notin_no (mem_pers.mpr ⟨p, rfl, xw_p R⟩) ?_
        refine tB_no ?_
        walk_at "w"
        refine wp_forT ?_
        walk_at "w"
        refine ⟨fun i e => ∃ x6, e = [.dat (.raw a), .dat .deck, .dat (.int p), .dat (.int q), .dat (.str (xw p q u)), x5, x6], ⟨_, rfl⟩, ?_, ?_⟩
        · rintro G i d e hd ⟨x6, rfl⟩
          obtain ⟨t, rfl, htl, ht⟩ : ∃ t : List Nat, d = .str t ∧ t.length = p + q - 1 ∧ ¬ (Pd t p ∧ Pd t q) := by
            match i, hd with
            | 0, hd => exact ⟨_, (Option.some.inj hd).symm, by rw [List.length_append, hxl]; show _ + 1 = _; omega, longer_end R 97⟩
            | 1, hd => exact ⟨_, (Option.some.inj hd).symm, by rw [List.length_append, hxl]; show _ + 1 = _; omega, longer_end R 98⟩
            | 2, hd => exact ⟨_, (Option.some.inj hd).symm, by rw [List.length_append, hxl]; show 1 + _ = _; omega, longer_begin R 97⟩
            | 3, hd => exact ⟨_, (Option.some.inj hd).symm, by rw [List.length_append, hxl]; show 1 + _ = _; omega, longer_begin R 98⟩
            | i + 4, hd => simp at hd
          walk_at "w"
          refine has_i (d' := p) rfl (by omega) (by omega) (by omega) fun b1 hb1 => ⟨b1, rfl, fun e1 => ?_, fun _ => wp_next (nx_lo ⟨_, rfl⟩)⟩
          walk_at "w"
          refine has_i (d' := q) rfl (by omega) (by omega) (by omega) fun b2 hb2 => ⟨b2, rfl, fun e2 => absurd ⟨hb1.mp e1, hb2.mp e2⟩ ht, fun _ => wp_next (nx_lo ⟨_, rfl⟩)⟩
        · rintro e ⟨x6, rfl⟩
          walk_at "w"
          rfl
      · refine wp_forT ?_
        walk_at "w"
        refine ⟨fun i e => ∃ x5, e = [.dat (.raw a), .dat .deck, .dat (.int p), .dat (.int q), .dat (.str (xw p q u)), x5, .no], ⟨_, rfl⟩, ?_, ?_⟩
        · rintro G i d e hd ⟨x5, rfl⟩
          obtain ⟨t, rfl, ht⟩ : ∃ t : Nat, d = .int t ∧ ((xw p q u).take t).reverse = (xw p q u).take t := by
            match i, hd with
            | 0, hd => exact ⟨p - 2, by rw [← Option.some.inj hd]; congr 1; omega, pal_take (xw_rev R) p2 (by rw [hxl, show p + q - 2 + 2 - p = q by omega]; exact xw_q R) (by omega)⟩
            | 1, hd => exact ⟨q - 2, by rw [← Option.some.inj hd]; congr 1; omega, pal_take (xw_rev R) q2 (by rw [hxl, show p + q - 2 + 2 - q = p by omega]; exact xw_p R) (by omega)⟩
            | i + 2, hd => simp at hd
          walk_at "w"
          refine ⟨by have := cutL_len (xw p q u) none (some (t : Int)); omega, ?_⟩
          have hc : cutL (xw p q u) none (some (t : Int)) = (xw p q u).take t := by rw [cutL_take _ (by omega)]; rfl
          have hc' : (cutL (xw p q u) none (some (t : Int))).reverse = cutL (xw p q u) none (some (t : Int)) := by rw [hc, ht]
          rw [hc']
          refine eqT_str (fun _ => wp_next (nx_lo ⟨_, rfl⟩)) (fun h => absurd rfl h)
        · rintro e ⟨x5, rfl⟩
          exact hu' _ ⟨_, rfl⟩
  · walk_at "w"
    refine take_i (by omega) fun z z0 z1 => ?_
    walk_at "w"
    · intro _
      walk_at "w"
      refine take_i (by omega) fun v v0 v1 => ?_
      walk_at "w"
      refine take_i (by omega) fun v' v0' v1' => ?_
      walk_at "w"
      exact hu _ ⟨_, _, by omega, rfl⟩
    · intro _
      exact wp_next (hu _ ⟨x, y, by omega, rfl⟩)
end DL

set_option Elab.async false
set_option linter.all false
set_option maxRecDepth 100000
set_option maxHeartbeats 4000000
namespace DL
open PySem PySem.Spec PyProof.Rows L2 DX SG
def topS (i : Nat) : Stmt := PySem.Challenge.pw_langwork_k02_whole_two_great_periods.main.body.getD i (.Pass ⟨0, 0, 0, 0⟩)
structure Blt (mg : Str → Option Value) : Prop where
  all : mg "all" = none
  len : mg "len" = none
  range : mg "range" = none
  list : mg "list" = none
  abs : mg "abs" = none
  int : mg "int" = none
  max : mg "max" = none
  str : mg "str" = none
  isinstance : mg "isinstance" = none
  sorted : mg "sorted" = none
  set : mg "set" = none
  min : mg "min" = none
section
variable {P : Program} {w : World} {K : PySem.W.Frag} {mg : Str → Option Value} {base : Heap}
abbrev si_InvalidWord : Stmt := inClass (topS 3) 0
theorem sci_InvalidWord : FnScope ["self", "what"] ["self", "what"] (defScope si_InvalidWord) := ⟨rfl, rfl, rfl, by decide +kernel, rfl, by decide +kernel, by decide +kernel⟩
theorem oki_InvalidWord {f C L : Addr} {fd : FuncData} (F : Fun K "__init__" "InvalidWord.__init__" si_InvalidWord f fd) (mL : mg "LangError" = some (.ref L)) (cr : ClX.CRead K L (.type "type")) (vV : PySem.W.findCls K (.ref L) (.type "type") "__init__" = some (.val (.builtin "ValueError.__init__"))) : FnOk P w K mg base CX0 1 f fd ["self", "what"] (spExc K C) := by
  refine okExc (told := "invalid word: ") F sci_InvalidWord (by decide +kernel) (fun cdv A outer s H E hr => ?_)
  exact (pss_cons (ps_expr (pe_binit rfl mL cr vV (pa_cons (pv 0) (pa_cons (pe_op op_addS pe_str (pv 1)) pa_nil)))) (pss_one (ps_ost (pv 0) (pv 1) rfl)))
abbrev si_TooMany : Stmt := inClass (topS 4) 0
theorem sci_TooMany : FnScope ["self", "what"] ["self", "what"] (defScope si_TooMany) := ⟨rfl, rfl, rfl, by decide +kernel, rfl, by decide +kernel, by decide +kernel⟩
theorem oki_TooMany {f C L : Addr} {fd : FuncData} (F : Fun K "__init__" "TooMany.__init__" si_TooMany f fd) (mL : mg "LangError" = some (.ref L)) (cr : ClX.CRead K L (.type "type")) (vV : PySem.W.findCls K (.ref L) (.type "type") "__init__" = some (.val (.builtin "ValueError.__init__"))) : FnOk P w K mg base CX0 1 f fd ["self", "what"] (spExc K C) := by
  refine okExc (told := "too many ") F sci_TooMany (by decide +kernel) (fun cdv A outer s H E hr => ?_)
  exact (pss_cons (ps_expr (pe_binit rfl mL cr vV (pa_cons (pv 0) (pa_cons (pe_op op_addS pe_str (pv 1)) pa_nil)))) (pss_one (ps_ost (pv 0) (pv 1) rfl)))
abbrev s_is_word : Stmt := topS 6
theorem sc_is_word : FnScope ["word", "letter"] ["word"] (defScope s_is_word) := ⟨rfl, rfl, rfl, by decide +kernel, rfl, by decide +kernel, by decide +kernel⟩
theorem ok_is_word {f : Addr} {fd : FuncData} (F : Fun K "is_word" "is_word" s_is_word f fd) (hB : Blt mg)   : FnOk P w K mg base CX0 1 f fd ["word"] (spD 1 rIsWord) := by
  refine okD F sc_is_word (by decide) rfl (fun cdv A outer s H E hr => ?_) (w_is_word (K := K))
  exact (pss_one (ps_ret (pe_callB (cr_all rfl) (by rfl) hB.all (by decide +kernel) (pa_cons (pe_lc (own := [("letter", 1)]) (g := gName 1) (by rfl) sc_is_word.nd (pi_str (pv 0)) (blkOk_by (own := [("letter", 1)]) (N := ["word", "letter"]) (sc := defScope s_is_word) (by decide +kernel)) (fun _ _ _ _ _ => pg_name (i := 1) sc_is_word.nd rfl (Or.inl rfl)) (fun _ _ _ _ _ => pts_nil) (fun _ _ _ _ _ => (pe_chain op_leS op_leS pe_str (pv 1) pe_str))) pa_nil))))

abbrev s_check_word : Stmt := topS 7
theorem sc_check_word : FnScope ["word"] ["word"] (defScope s_check_word) := ⟨rfl, rfl, rfl, by decide +kernel, rfl, by decide +kernel, by decide +kernel⟩
theorem ok_check_word {f : Addr} {fd : FuncData} (F : Fun K "check_word" "check_word" s_check_word f fd)  (d_is_word : Df P w K mg base 1 "is_word" ["word"] (spD 1 rIsWord)) : FnOk P w K mg base CX0 2 f fd ["word"] (spD 1 rCheckWord) := by
  refine okD F sc_check_word (by decide) rfl (fun cdv A outer s H E hr => ?_) (w_check_word (K := K))
  exact (pss_one (ps_if (pt_not (pt_val (pe_d d_is_word hr (by decide) rfl (pa_cons (pv 0) pa_nil)))) (pss_one ps_never) pss_nil))

abbrev s_border_lengths : Stmt := topS 10
theorem sc_border_lengths : FnScope ["word", "found", "here", "at"] ["word"] (defScope s_border_lengths) := ⟨rfl, rfl, rfl, by decide +kernel, rfl, by decide +kernel, by decide +kernel⟩
theorem ok_border_lengths {f : Addr} {fd : FuncData} (F : Fun K "border_lengths" "border_lengths" s_border_lengths f fd) (hB : Blt mg)   : FnOk P w K mg base CX0 1 f fd ["word"] (spD 1 rBorderLengths) := by
  refine okD F sc_border_lengths (by decide) rfl (fun cdv A outer s H E hr => ?_) (w_border_lengths (K := K))
  exact (pss_cons (ps_set (i := 1) sc_border_lengths.nd rfl (by first | exact Or.inl rfl | exact Or.inr rfl) (pe_op op_rep (pe_lst (pa_cons pe_int pa_nil)) (pe_op op_add (pe_callB cl_lenS (by rfl) hB.len PySem.boot_len (pa_cons (pv 0) pa_nil)) pe_int)))
    (pss_cons (ps_set (i := 2) sc_border_lengths.nd rfl (by first | exact Or.inl rfl | exact Or.inr rfl) pe_int)
    (pss_cons (ps_for PassesOwn.never rfl (pi_range2 (by rfl) hB.range (pa_cons pe_int (pa_cons (pe_callB cl_lenS (by rfl) hB.len PySem.boot_len (pa_cons (pv 0) pa_nil)) pa_nil))) (pg_name (i := 3) sc_border_lengths.nd rfl (by first | exact Or.inl rfl | exact Or.inr rfl)) (pss_cons (ps_while PassesOwn.never (PW.pt (pw_and (pt_cmpR op_gt (pv 2) pe_int (nomark _)) (pw_and1 (pt_cmpR op_ne (pe_ix ix_str (pv 0) (pv 3) (fun _ _ => rfl)) (pe_ix ix_str (pv 0) (pv 2) (fun _ _ => rfl)) (nomark _))))) (pss_one (ps_set (i := 2) sc_border_lengths.nd rfl (by first | exact Or.inl rfl | exact Or.inr rfl) (pe_ix ix_list (pv 1) (pv 2) (fun _ _ => rfl)))))
    (pss_cons (ps_if (pt_cmpR op_eq (pe_ix ix_str (pv 0) (pv 3) (fun _ _ => rfl)) (pe_ix ix_str (pv 0) (pv 2) (fun _ _ => rfl)) (nomark _)) (pss_one (ps_aug (i := 2) sc_border_lengths.nd rfl (by first | exact Or.inl rfl | exact Or.inr rfl) pe_int ip_add)) pss_nil)
    (pss_one (ps_asg (pv 2) (pg_sub (pv 1) (pe_op op_add (pv 3) pe_int) set_list))))))
    (pss_one (ps_ret (pv 1))))))

abbrev s_borders : Stmt := topS 11
theorem sc_borders : FnScope ["word", "table", "found", "here"] ["word"] (defScope s_borders) := ⟨rfl, rfl, rfl, by decide +kernel, rfl, by decide +kernel, by decide +kernel⟩
theorem ok_borders {f : Addr} {fd : FuncData} (F : Fun K "borders" "borders" s_borders f fd) (hB : Blt mg)  (d_check_word : Df P w K mg base 2 "check_word" ["word"] (spD 1 rCheckWord)) (d_border_lengths : Df P w K mg base 1 "border_lengths" ["word"] (spD 1 rBorderLengths)) : FnOk P w K mg base CX0 3 f fd ["word"] (spD 1 rBorders) := by
  refine okD F sc_borders (by decide) rfl (fun cdv A outer s H E hr => ?_) (w_borders (K := K))
  exact (pss_cons (ps_expr (pe_d d_check_word hr (by decide) rfl (pa_cons (pv 0) pa_nil)))
    (pss_cons (ps_set (i := 1) sc_borders.nd rfl (by first | exact Or.inl rfl | exact Or.inr rfl) (pe_d d_border_lengths hr (by decide) rfl (pa_cons (pv 0) pa_nil)))
    (pss_cons (ps_set (i := 2) sc_borders.nd rfl (by first | exact Or.inl rfl | exact Or.inr rfl) (pe_lst pa_nil))
    (pss_cons (ps_set (i := 3) sc_borders.nd rfl (by first | exact Or.inl rfl | exact Or.inr rfl) (pe_callB cl_lenS (by rfl) hB.len PySem.boot_len (pa_cons (pv 0) pa_nil)))
    (pss_cons (ps_while PassesOwn.never (pt_cmpR op_gt (pv 3) pe_int (nomark _)) (pss_cons (ps_set (i := 3) sc_borders.nd rfl (by first | exact Or.inl rfl | exact Or.inr rfl) (pe_ix ix_list (pv 1) (pv 3) (fun _ _ => rfl)))
    (pss_one (ps_expr (pe_bm PySem.F.plainAttrs_list PySem.F.slot_list_append PySem.F.type_list_append mt_append (pv 2) (pa_cons (pv 3) pa_nil))))))
    (pss_one (ps_ret (pe_revL (pv 2)))))))))

abbrev s_periods : Stmt := topS 12
theorem sc_periods : FnScope ["word", "border"] ["word"] (defScope s_periods) := ⟨rfl, rfl, rfl, by decide +kernel, rfl, by decide +kernel, by decide +kernel⟩
theorem ok_periods {f : Addr} {fd : FuncData} (F : Fun K "periods" "periods" s_periods f fd) (hB : Blt mg)  (d_borders : Df P w K mg base 3 "borders" ["word"] (spD 1 rBorders)) : FnOk P w K mg base CX0 4 f fd ["word"] (spD 1 rPeriods) := by
  refine okD F sc_periods (by decide) rfl (fun cdv A outer s H E hr => ?_) (w_periods (K := K))
  exact (pss_one (ps_ret (pe_lc (own := [("border", 1)]) (g := gName 1) (by rfl) sc_periods.nd (pi_list (pe_revL (pe_d d_borders hr (by decide) rfl (pa_cons (pv 0) pa_nil)))) (blkOk_by (own := [("border", 1)]) (N := ["word", "border"]) (sc := defScope s_periods) (by decide +kernel)) (fun _ _ _ _ _ => pg_name (i := 1) sc_periods.nd rfl (Or.inl rfl)) (fun _ _ _ _ _ => pts_nil) (fun _ _ _ _ _ => (pe_op op_sub (pe_callB cl_lenS (by rfl) hB.len PySem.boot_len (pa_cons (pv 0) pa_nil)) (pv 1))))))

abbrev s_least_period : Stmt := topS 13
theorem sc_least_period : FnScope ["word"] ["word"] (defScope s_least_period) := ⟨rfl, rfl, rfl, by decide +kernel, rfl, by decide +kernel, by decide +kernel⟩
theorem ok_least_period {f : Addr} {fd : FuncData} (F : Fun K "least_period" "least_period" s_least_period f fd)  (d_check_word : Df P w K mg base 2 "check_word" ["word"] (spD 1 rCheckWord)) (d_periods : Df P w K mg base 4 "periods" ["word"] (spD 1 rPeriods)) : FnOk P w K mg base CX0 5 f fd ["word"] (spD 1 rLeastPeriod) := by
  refine okD F sc_least_period (by decide) rfl (fun cdv A outer s H E hr => ?_) (w_least_period (K := K))
  exact (pss_cons (ps_expr (pe_d d_check_word hr (by decide) rfl (pa_cons (pv 0) pa_nil)))
    (pss_cons (ps_if (pt_cmpR op_eq (pv 0) pe_str (nomark _)) (pss_one ps_never) pss_nil)
    (pss_one (ps_ret (pe_ix ix_list (pe_d d_periods hr (by decide) rfl (pa_cons (pv 0) pa_nil)) pe_int (fun _ _ => rfl))))))

abbrev s_extremal_word : Stmt := topS 14
theorem sc_extremal_word : FnScope ["first", "second", "size", "groups", "period", "names", "group", "at", "one", "two"] ["first", "second"] (defScope s_extremal_word) := ⟨rfl, rfl, rfl, by decide +kernel, rfl, by decide +kernel, by decide +kernel⟩
theorem ok_extremal_word {f : Addr} {fd : FuncData} (F : Fun K "extremal_word" "extremal_word" s_extremal_word f fd) (hB : Blt mg) {c_InvalidWord c_TooMany : Addr} (xt : XT K c_InvalidWord c_TooMany) (x_InvalidWord : Xd P w K mg base "InvalidWord" c_InvalidWord) (x_TooMany : Xd P w K mg base "TooMany" c_TooMany) (m_gcd : mg "gcd" = some (.builtin "math.gcd")) (m_MOST_LENGTH : ∃ t, mg "MOST_LENGTH" = some (.int 400 t))  : FnOk P w K mg base (L2.CX P w) 3 f fd ["first", "second"] (spX 2 (rExt c_InvalidWord c_TooMany)) := by
  refine okX F sc_extremal_word (by decide) rfl (fun cdv A outer s H E hr => ?_) (w_extremal_word xt)
  exact (pss_cons (ps_if (PW.pt (pw_or (pt_cmpR op_lt (pv 0) pe_int (nomark _)) (pw_or (pt_cmpR op_lt (pv 1) pe_int (nomark _)) (pw_or1 (pt_cmpR op_ne (pe_callBfun cr_gcd (by rfl) m_gcd (pa_cons (pv 0) (pa_cons (pv 1) pa_nil))) pe_int (nomark _)))))) (pss_one (ps_raiseX x_InvalidWord rfl hr (by decide) (takes_of rfl rfl rfl rfl) rfl (pa_cons pe_str pa_nil))) pss_nil)
    (pss_cons (ps_if (pt_cmpR op_gt (pe_op op_add (pv 0) (pv 1)) (pe_gint (by rfl) m_MOST_LENGTH) (nomark _)) (pss_one (ps_raiseX x_TooMany rfl hr (by decide) (takes_of rfl rfl rfl rfl) rfl (pa_cons pe_str pa_nil))) pss_nil)
    (pss_cons (ps_set (i := 2) sc_extremal_word.nd rfl (by first | exact Or.inl rfl | exact Or.inr rfl) (pe_op op_sub (pe_op op_add (pv 0) (pv 1)) pe_int))
    (pss_cons (ps_set (i := 3) sc_extremal_word.nd rfl (by first | exact Or.inl rfl | exact Or.inr rfl) (pe_listRg rfl (by rfl) hB.list (prg_1 (by rfl) hB.range (pv 2))))
    (pss_cons (ps_for (passes_of rfl) rfl (pi_tup (pe_tup (pa_cons (pv 0) (pa_cons (pv 1) pa_nil)))) (pg_name (i := 4) sc_extremal_word.nd rfl (by first | exact Or.inl rfl | exact Or.inr rfl)) (pss_one (ps_for (passes_of rfl) rfl (pi_range1 (by rfl) hB.range (pa_cons (pe_op op_sub (pv 2) (pv 4)) pa_nil)) (pg_name (i := 7) sc_extremal_word.nd rfl (by first | exact Or.inl rfl | exact Or.inr rfl)) (pss_cons (by first | exact ps_par (by rfl) sc_extremal_word.nd rfl rfl (by decide) rfl rfl (pa_cons (pe_ix ix_list (pv 3) (pv 7) (fun _ _ => rfl)) (pa_cons (pe_ix ix_list (pv 3) (pe_op op_add (pv 7) (pv 4)) (fun _ _ => rfl)) pa_nil)) (by rfl) | exact ps_par_none (by rfl) sc_extremal_word.nd rfl rfl (by decide) (by first | exact Or.inl rfl | exact Or.inr rfl) (by first | exact Or.inl rfl | exact Or.inr rfl) (pa_cons (pe_ix ix_list (pv 3) (pv 7) (fun _ _ => rfl)) (pa_cons (pe_ix ix_list (pv 3) (pe_op op_add (pv 7) (pv 4)) (fun _ _ => rfl)) pa_nil)) (by rfl))
    (pss_one (ps_setLc (i := 3) (own := [("group", 6)]) (g := gName 6) (by rfl) sc_extremal_word.nd rfl rfl (sw_true rfl rfl rfl (by decide +kernel)) (pi_list (pv 3)) (blkOk_by (own := [("group", 6)]) (N := ["first", "second", "size", "groups", "period", "names", "group", "at", "one", "two"]) (sc := defScope s_extremal_word) (by decide +kernel)) (fun _ _ _ _ _ => pg_name (i := 6) sc_extremal_word.nd rfl (Or.inl rfl)) (fun _ _ _ _ _ => pts_nil) (fun _ _ _ _ _ => (pe_ifExp (pt_cmpR op_eq (pv 6) (pv 9) (nomark _)) (pv 8) (pv 6)))))))))
    (pss_cons (ps_set (i := 5) sc_extremal_word.nd rfl (by first | exact Or.inl rfl | exact Or.inr rfl) (pe_lst pa_nil))
    (pss_cons (ps_for (passes_of rfl) rfl (pi_list (pv 3)) (pg_name (i := 6) sc_extremal_word.nd rfl (by first | exact Or.inl rfl | exact Or.inr rfl)) (pss_one (ps_if (pt_cmpR op_notIn_seq (pv 6) (pv 5) (by rfl)) (pss_one (ps_expr (pe_bm PySem.F.plainAttrs_list PySem.F.slot_list_append PySem.F.type_list_append mt_append (pv 5) (pa_cons (pv 6) pa_nil)))) pss_nil)))
    (pss_one (ps_ret (pe_bm PySem.F.plainAttrs_str PySem.F.slot_str_join PySem.F.type_str_join mt_joinD pe_str (pa_cons (pe_lc (own := [("group", 6)]) (g := gName 6) (by rfl) sc_extremal_word.nd (pi_list (pv 3)) (blkOk_by (own := [("group", 6)]) (N := ["first", "second", "size", "groups", "period", "names", "group", "at", "one", "two"]) (sc := defScope s_extremal_word) (by decide +kernel)) (fun _ _ _ _ _ => pg_name (i := 6) sc_extremal_word.nd rfl (Or.inl rfl)) (fun _ _ _ _ _ => pts_nil) (fun _ _ _ _ _ => (pe_ix ix_str pe_str (pe_bm PySem.F.plainAttrs_list PySem.F.slot_list_index PySem.F.type_list_index mt_index (pv 5) (pa_cons (pv 6) pa_nil)) (fun _ _ => rfl)))) pa_nil)))))))))))

abbrev s_law_deck : Stmt := topS 16
theorem sc_law_deck : FnScope ["script", "cells", "each", "deck", "seed", "k", "cell", "rest", "at"] ["script", "cells", "each"] (defScope s_law_deck) := ⟨rfl, rfl, rfl, by decide +kernel, rfl, by decide +kernel, by decide +kernel⟩
theorem ok_law_deck {f : Addr} {fd : FuncData} (F : Fun K "_law_deck" "_law_deck" s_law_deck f fd) (hB : Blt mg)   : FnOk P w K mg base CX0 1 f fd ["script", "cells", "each"] (spDeck K) := by
  refine deck_of (x := "_law_deck") (okDeck F sc_law_deck (by decide) (fun cdv A outer s H E hr => ?_) (w_law_deck (K := K)))
  exact (pss_cons (ps_set (i := 3) sc_law_deck.nd rfl (by first | exact Or.inl rfl | exact Or.inr rfl) (pe_lst pa_nil))
    (pss_cons (ps_set (i := 4) sc_law_deck.nd rfl (by first | exact Or.inl rfl | exact Or.inr rfl) (pe_op op_add pe_int (pe_callB cl_lenL (by rfl) hB.len PySem.boot_len (pa_cons (pv 0) pa_nil))))
    (pss_cons (ps_for PassesOwn.never rfl (pi_range1 (by rfl) hB.range (pa_cons (pv 1) pa_nil)) (pg_name (i := 5) sc_law_deck.nd rfl (by first | exact Or.inl rfl | exact Or.inr rfl)) (pss_cons (ps_set (i := 6) sc_law_deck.nd rfl (by first | exact Or.inl rfl | exact Or.inr rfl) pe_int)
    (pss_cons (ps_if (pt_cmpR op_lt (pv 5) (pe_callB cl_lenL (by rfl) hB.len PySem.boot_len (pa_cons (pv 0) pa_nil)) (nomark _)) (pss_one (ps_set (i := 6) sc_law_deck.nd rfl (by first | exact Or.inl rfl | exact Or.inr rfl) (pe_ix ix_list (pv 0) (pv 5) (fun _ _ => rfl)))) pss_nil)
    (pss_cons (ps_set (i := 7) sc_law_deck.nd rfl (by first | exact Or.inl rfl | exact Or.inr rfl) (pe_callB cl_abs (by rfl) hB.abs (by decide +kernel) (pa_cons (pv 6) pa_nil)))
    (pss_one (ps_if (pt_cmpR op_ge (pv 7) (pe_op op_pow pe_int pe_int) (nomark _)) (pss_one (ps_for PassesOwn.never rfl (pi_range1 (by rfl) hB.range (pa_cons (pv 2) pa_nil)) (pg_name (i := 8) sc_law_deck.nd rfl (by first | exact Or.inl rfl | exact Or.inr rfl)) (pss_cons (ps_expr (pe_bm PySem.F.plainAttrs_list PySem.F.slot_list_append PySem.F.type_list_append mt_append (pv 3) (pa_cons (pe_op op_mod (pe_callTy cl_int1 (by rfl) hB.int (by decide +kernel) (pa_cons (pv 7) pa_nil)) pe_int) pa_nil)))
    (pss_one (ps_set (i := 7) sc_law_deck.nd rfl (by first | exact Or.inl rfl | exact Or.inr rfl) (pe_op op_fdiv (pv 7) pe_int)))))) (pss_cons (ps_set (i := 4) sc_law_deck.nd rfl (by first | exact Or.inl rfl | exact Or.inr rfl) (pe_op op_mod (pe_callTy cl_int1 (by rfl) hB.int (by decide +kernel) (pa_cons (pe_op op_add (pe_op op_add (pe_op op_add (pe_op op_mul (pv 4) pe_int) (pe_op op_mul pe_int (pv 7))) (pe_op op_mul pe_int (pe_callTy cl_int1 (by rfl) hB.int (by decide +kernel) (pa_cons (pe_cmpR op_lt (pv 6) pe_int (nomark _)) pa_nil)))) (pv 5)) pa_nil)) pe_int))
    (pss_one (ps_for PassesOwn.never rfl (pi_range1 (by rfl) hB.range (pa_cons (pv 2) pa_nil)) (pg_name (i := 8) sc_law_deck.nd rfl (by first | exact Or.inl rfl | exact Or.inr rfl)) (pss_cons (ps_set (i := 4) sc_law_deck.nd rfl (by first | exact Or.inl rfl | exact Or.inr rfl) (pe_op op_mod (pe_callTy cl_int1 (by rfl) hB.int (by decide +kernel) (pa_cons (pe_op op_add (pe_op op_add (pe_op op_mul (pv 4) pe_int) (pv 8)) pe_int) pa_nil)) pe_int))
    (pss_one (ps_expr (pe_bm PySem.F.plainAttrs_list PySem.F.slot_list_append PySem.F.type_list_append mt_append (pv 3) (pa_cons (pe_op op_mod (pe_callTy cl_int1 (by rfl) hB.int (by decide +kernel) (pa_cons (pe_op op_fdiv (pv 4) pe_int) pa_nil)) pe_int) pa_nil))))))))))))))
    (pss_cons (ps_expr (pe_bm0 PySem.F.plainAttrs_list PySem.F.slot_list_reverse PySem.F.type_list_reverse mt_reverse (pv 3)))
    (pss_one (ps_ret (pv 3)))))))

abbrev s_law_take : Stmt := topS 17
theorem sc_law_take : FnScope ["deck", "many"] ["deck", "many"] (defScope s_law_take) := ⟨rfl, rfl, rfl, by decide +kernel, rfl, by decide +kernel, by decide +kernel⟩
theorem ok_law_take {f : Addr} {fd : FuncData} (F : Fun K "_law_take" "_law_take" s_law_take f fd) (hB : Blt mg)   : FnOk P w K mg base CX0 1 f fd ["deck", "many"] (spD 2 rTake) := by
  refine take_of rfl (okTake F sc_law_take (by decide) (fun cdv A outer s H E hr => ?_) (w_law_take (K := K)))
  exact (pss_cons (ps_if (pt_cmpR op_eq (pe_callB cl_lenL (by rfl) hB.len PySem.boot_len (pa_cons (pv 0) pa_nil)) pe_int (nomark _)) (pss_one (ps_ret pe_int)) pss_nil)
    (pss_one (ps_ret (pe_op op_mod (pe_callTy cl_int1 (by rfl) hB.int (by decide +kernel) (pa_cons (pe_bm0 PySem.F.plainAttrs_list PySem.F.slot_list_pop PySem.F.type_list_pop mt_pop (pv 0)) pa_nil)) (pv 1)))))

abbrev s_law_divisor : Stmt := topS 18
theorem sc_law_divisor : FnScope ["one", "other", "left", "right", "turn"] ["one", "other"] (defScope s_law_divisor) := ⟨rfl, rfl, rfl, by decide +kernel, rfl, by decide +kernel, by decide +kernel⟩
theorem ok_law_divisor {f : Addr} {fd : FuncData} (F : Fun K "_law_divisor" "_law_divisor" s_law_divisor f fd) (hB : Blt mg)   : FnOk P w K mg base CX0 1 f fd ["one", "other"] (spD 2 rDivisor) := by
  refine okD F sc_law_divisor (by decide) rfl (fun cdv A outer s H E hr => ?_) (w_law_divisor (K := K))
  exact (pss_cons (ps_set (i := 2) sc_law_divisor.nd rfl (by first | exact Or.inl rfl | exact Or.inr rfl) (pe_callB cl_abs (by rfl) hB.abs (by decide +kernel) (pa_cons (pv 0) pa_nil)))
    (pss_cons (ps_set (i := 3) sc_law_divisor.nd rfl (by first | exact Or.inl rfl | exact Or.inr rfl) (pe_callB cl_abs (by rfl) hB.abs (by decide +kernel) (pa_cons (pv 1) pa_nil)))
    (pss_cons (ps_for PassesOwn.never rfl (pi_range1 (by rfl) hB.range (pa_cons pe_int pa_nil)) (pg_name (i := 4) sc_law_divisor.nd rfl (by first | exact Or.inl rfl | exact Or.inr rfl)) (pss_cons (ps_if (pt_cmpR op_eq (pv 3) pe_int (nomark _)) (pss_one (ps_ret (pv 2))) pss_nil)
    (pss_one (ps_par (by rfl) sc_law_divisor.nd rfl rfl (by decide) rfl rfl (pa_cons (pv 3) (pa_cons (pe_op op_mod (pe_callTy cl_int1 (by rfl) hB.int (by decide +kernel) (pa_cons (pv 2) pa_nil)) (pv 3)) pa_nil)) (by rfl)))))
    (pss_one (ps_ret (pv 2))))))

abbrev s_law_why : Stmt := topS 19
theorem sc_law_why : FnScope ["first", "second", "error"] ["first", "second"] (defScope s_law_why) := ⟨rfl, rfl, rfl, by decide +kernel, rfl, by decide +kernel, by decide +kernel⟩
theorem ok_law_why {f : Addr} {fd : FuncData} (F : Fun K "_law_why" "_law_why" s_law_why f fd) {c_InvalidWord c_TooMany : Addr} (xt : XT K c_InvalidWord c_TooMany) (x_InvalidWord : Xd P w K mg base "InvalidWord" c_InvalidWord) (x_TooMany : Xd P w K mg base "TooMany" c_TooMany)  (d_extremal_word : DfX P w K mg base 3 "extremal_word" ["first", "second"] (spX 2 (rExt c_InvalidWord c_TooMany))) : FnOk P w K mg base CX0 4 f fd ["first", "second"] (spD 2 rWhy) := by
  refine okD F sc_law_why (by decide) rfl (fun cdv A outer s H E hr => ?_) (w_law_why xt)
  exact (pss_cons (ps_try_as_many (tb := fun W => (tDrop (tCallS (spX 2 (rExt c_InvalidWord c_TooMany)) (WE W) (tCons (tVar 0) (tCons (tVar 1) tNil))))) rfl rfl sc_law_why.nd takes0 (fun W pn xe tk po => (pss_one (ps_expr (pe_dS d_extremal_word hr (by decide) rfl tk (pa_cons (pv 0) (pa_cons (pv 1) pa_nil)))))) (ClausesOk.one ⟨rfl, by decide, Or.inl x_InvalidWord.at_⟩ rfl rfl (fun a oe cls d pn hz hf => (pss_one (ps_ret (pe_tup (pa_cons pe_str (pa_cons (pe_xf x_InvalidWord.xc.xf x_InvalidWord.xc.now hz hf (pv 2)) pa_nil)))))) (ClausesOk.one ⟨rfl, by decide, Or.inl x_TooMany.at_⟩ rfl rfl (fun a oe cls d pn hz hf => (pss_one (ps_ret (pe_tup (pa_cons pe_str (pa_cons (pe_xf x_TooMany.xc.xf x_TooMany.xc.now hz hf (pv 2)) pa_nil)))))) ClausesOk.none)))
    (pss_one (ps_ret (pe_tup (pa_cons pe_str (pa_cons pe_str pa_nil))))))

abbrev s_law_has : Stmt := topS 20
theorem sc_law_has : FnScope ["word", "period"] ["word", "period"] (defScope s_law_has) := ⟨rfl, rfl, rfl, by decide +kernel, rfl, by decide +kernel, by decide +kernel⟩
theorem ok_law_has {f : Addr} {fd : FuncData} (F : Fun K "_law_has" "_law_has" s_law_has f fd) (hB : Blt mg)   : FnOk P w K mg base CX0 1 f fd ["word", "period"] (spD 2 rHas) := by
  refine okD F sc_law_has (by decide) rfl (fun cdv A outer s H E hr => ?_) (w_law_has (K := K))
  exact (pss_one (ps_ret (pe_cmpR op_eq (pe_slice sl_str (pv 0) (po_some (pv 1)) po_none) (pe_slice sl_str (pv 0) po_none (po_some (pe_callB (cl_max2 rfl) (by rfl) hB.max (by decide +kernel) (pa_cons pe_int (pa_cons (pe_op op_sub (pe_callB cl_lenS (by rfl) hB.len PySem.boot_len (pa_cons (pv 0) pa_nil)) (pv 1)) pa_nil))))) (nomark _))))

abbrev s_law : Stmt := topS 21
theorem sc_law : FnScope ["script", "deck", "one", "two", "word", "size", "longer"] ["script"] (defScope s_law) := ⟨rfl, rfl, rfl, by decide +kernel, rfl, by decide +kernel, by decide +kernel⟩
theorem ok_law {f : Addr} {fd : FuncData} (F : Fun K "law" "law" s_law f fd) (hB : Blt mg) {c_InvalidWord c_TooMany : Addr} (xt : XT K c_InvalidWord c_TooMany)   (d_law_deck : Df P w K mg base 1 "_law_deck" ["script", "cells", "each"] (spDeck K)) (d_law_take : Df P w K mg base 1 "_law_take" ["deck", "many"] (spD 2 rTake)) (d_law_divisor : Df P w K mg base 1 "_law_divisor" ["one", "other"] (spD 2 rDivisor)) (d_law_why : Df P w K mg base 4 "_law_why" ["first", "second"] (spD 2 rWhy)) (d_extremal_word : DfX P w K mg base 3 "extremal_word" ["first", "second"] (spX 2 (rExt c_InvalidWord c_TooMany))) (d_law_has : Df P w K mg base 1 "_law_has" ["word", "period"] (spD 2 rHas)) (d_least_period : Df P w K mg base 5 "least_period" ["word"] (spD 1 rLeastPeriod)) (d_periods : Df P w K mg base 4 "periods" ["word"] (spD 1 rPeriods)) : FnOk P w K mg base CX0 6 f fd ["script"] (spLaw K) := by
  refine okLaw F sc_law (by decide) (fun cdv A outer s H E hr => ?_) (w_law xt)
  exact (pss_cons (ps_set (i := 1) sc_law.nd rfl (by first | exact Or.inl rfl | exact Or.inr rfl) (pe_d d_law_deck hr (by decide) rfl (pa_cons (pv 0) (pa_cons pe_int (pa_cons pe_int pa_nil)))))
    (pss_cons (ps_set (i := 2) sc_law.nd rfl (by first | exact Or.inl rfl | exact Or.inr rfl) (pe_d d_law_take hr (by decide) rfl (pa_cons (pv 1) (pa_cons pe_int pa_nil))))
    (pss_cons (ps_set (i := 3) sc_law.nd rfl (by first | exact Or.inl rfl | exact Or.inr rfl) (pe_d d_law_take hr (by decide) rfl (pa_cons (pv 1) (pa_cons pe_int pa_nil))))
    (pss_cons (ps_if (pt_cmpR op_eq (pe_d d_law_take hr (by decide) rfl (pa_cons (pv 1) (pa_cons pe_int pa_nil))) pe_int (nomark _)) (pss_cons (ps_set (i := 2) sc_law.nd rfl (by first | exact Or.inl rfl | exact Or.inr rfl) (pe_op op_add pe_int (pe_d d_law_take hr (by decide) rfl (pa_cons (pv 1) (pa_cons pe_int pa_nil)))))
    (pss_one (ps_set (i := 3) sc_law.nd rfl (by first | exact Or.inl rfl | exact Or.inr rfl) (pe_op op_sub (pe_op op_add pe_int (pe_d d_law_take hr (by decide) rfl (pa_cons (pv 1) (pa_cons pe_int pa_nil)))) (pv 2))))) pss_nil)
    (pss_cons (ps_if (PW.pt (pw_or (pt_cmpR op_lt (pv 2) pe_int (nomark _)) (pw_or (pt_cmpR op_lt (pv 3) pe_int (nomark _)) (pw_or1 (pt_cmpR op_ne (pe_d d_law_divisor hr (by decide) rfl (pa_cons (pv 2) (pa_cons (pv 3) pa_nil))) pe_int (nomark _)))))) (pss_one (ps_ret (pe_cmpR (op_eqD hr.units) (pe_d d_law_why hr (by decide) rfl (pa_cons (pv 2) (pa_cons (pv 3) pa_nil))) (pe_tup (pa_cons pe_str (pa_cons pe_str pa_nil))) (nomark _)))) pss_nil)
    (pss_cons (ps_if (pt_cmpR op_gt (pe_op op_add (pv 2) (pv 3)) pe_int (nomark _)) (pss_one (ps_ret (pe_and (pe_cmpR (op_eqD hr.units) (pe_d d_law_why hr (by decide) rfl (pa_cons (pv 2) (pa_cons (pv 3) pa_nil))) (pe_tup (pa_cons pe_str (pa_cons pe_str pa_nil))) (nomark _)) (pe_one (pe_cmpR (op_eqD hr.units) (pe_d d_law_why hr (by decide) rfl (pa_cons (pv 2) (pa_cons (pv 2) pa_nil))) (pe_tup (pa_cons pe_str (pa_cons pe_str pa_nil))) (nomark _)))))) pss_nil)
    (pss_cons (ps_set (i := 4) sc_law.nd rfl (by first | exact Or.inl rfl | exact Or.inr rfl) (pe_dN d_extremal_word hr (by decide) rfl (pa_cons (pv 2) (pa_cons (pv 3) pa_nil))))
    (pss_cons (ps_if (PW.pt (pw_or (pt_not (pt_val (pe_callB call_isi (by rfl) hB.isinstance (by decide +kernel) (pa_cons (pv 4) (pa_cons (pe_bltn (by rfl) hB.str (by decide +kernel) rfl) pa_nil))))) (pw_or (pt_cmpR op_ne (pe_callB cl_lenS (by rfl) hB.len PySem.boot_len (pa_cons (pv 4) pa_nil)) (pe_op op_sub (pe_op op_add (pv 2) (pv 3)) pe_int) (nomark _)) (pw_or1 (pt_cmpR op_ne (pe_slice sl_str (pv 4) po_none (po_some pe_int)) pe_str (nomark _)))))) (pss_one (ps_ret pe_bl)) pss_nil)
    (pss_cons (ps_if (PW.pt (pw_or (pt_cmpR (op_neD hr.units) (pe_sortedSetT rfl (by rfl) hB.sorted (by decide +kernel) (by rfl) hB.set (pv 4)) (pe_lst (pa_cons pe_str (pa_cons pe_str pa_nil))) (nomark _)) (pw_or (pt_cmpR op_ne (pv 4) (pe_revS (pv 4)) (nomark _)) (pw_or1 (pt_cmpR op_ne (pe_dN d_extremal_word hr (by decide) rfl (pa_cons (pv 3) (pa_cons (pv 2) pa_nil))) (pv 4) (nomark _)))))) (pss_one (ps_ret pe_bl)) pss_nil)
    (pss_cons (ps_for PassesOwn.never rfl (pi_tup (pe_tup (pa_cons (pe_op op_sub (pv 2) pe_int) (pa_cons (pe_op op_sub (pv 3) pe_int) pa_nil)))) (pg_name (i := 5) sc_law.nd rfl (by first | exact Or.inl rfl | exact Or.inr rfl)) (pss_one (ps_if (pt_cmpR op_ne (pe_slice sl_str (pv 4) po_none (po_some (pv 5))) (pe_revS (pe_slice sl_str (pv 4) po_none (po_some (pv 5)))) (nomark _)) (pss_one (ps_ret pe_bl)) pss_nil)))
    (pss_cons (ps_if (PW.pt (pw_or (pt_not (pt_val (pe_d d_law_has hr (by decide) rfl (pa_cons (pv 4) (pa_cons (pv 2) pa_nil))))) (pw_or (pt_not (pt_val (pe_d d_law_has hr (by decide) rfl (pa_cons (pv 4) (pa_cons (pv 3) pa_nil))))) (pw_or1 (pt_val (pe_d d_law_has hr (by decide) rfl (pa_cons (pv 4) (pa_cons pe_int pa_nil)))))))) (pss_one (ps_ret pe_bl)) pss_nil)
    (pss_cons (ps_if (PW.pt (pw_or (pt_cmpR op_ne (pe_d d_least_period hr (by decide) rfl (pa_cons (pv 4) pa_nil)) (pe_callB (cl_min2 rfl) (by rfl) hB.min (by decide +kernel) (pa_cons (pv 2) (pa_cons (pv 3) pa_nil))) (nomark _)) (pw_or1 (PW.pt (pw_and (pt_cmpR op_notIn_seq (pv 2) (pe_d d_periods hr (by decide) rfl (pa_cons (pv 4) pa_nil)) (by rfl)) (pw_and1 (pt_cmpR op_lt (pv 2) (pe_op op_add (pe_callB cl_lenS (by rfl) hB.len PySem.boot_len (pa_cons (pv 4) pa_nil)) pe_int) (nomark _)))))))) (pss_one (ps_ret pe_bl)) pss_nil)
    (pss_cons (ps_for PassesOwn.never rfl (pi_tup (pe_tup (pa_cons (pe_op op_addS (pv 4) pe_str) (pa_cons (pe_op op_addS (pv 4) pe_str) (pa_cons (pe_op op_addS pe_str (pv 4)) (pa_cons (pe_op op_addS pe_str (pv 4)) pa_nil)))))) (pg_name (i := 6) sc_law.nd rfl (by first | exact Or.inl rfl | exact Or.inr rfl)) (pss_one (ps_if (PW.pt (pw_and (pt_val (pe_d d_law_has hr (by decide) rfl (pa_cons (pv 6) (pa_cons (pv 2) pa_nil)))) (pw_and1 (pt_val (pe_d d_law_has hr (by decide) rfl (pa_cons (pv 6) (pa_cons (pv 3) pa_nil))))))) (pss_one (ps_ret pe_bl)) pss_nil)))
    (pss_one (ps_ret pe_bl)))))))))))))))

end
theorem all_mk {l : PySem.W.OpenLaw} {w : World} {K : PySem.W.Frag} {h : Heap} {mg : Str → Option Value} {fa f1 f2 f3 f4 f5 f6 f7 f8 f9 f10 f11 f12 f13 : Addr} (X : K.In h) (G : h.Ns mainGlobals mg) (hfa : mg "law" = some (.ref fa))
    {od1 an1 od2 an2 od3 an3 od4 an4 od5 an5 od6 an6 od7 an7 od8 an8 od9 an9 od10 an10 od11 an11 od12 an12 od13 an13 : Option Addr} {sl1 sl2 sl3 sl4 sl5 sl6 sl7 sl8 sl9 sl10 sl11 sl12 sl13 : Array (Option Value)} {oc1 kV1 dc1 pm1 cd1 ct1 oc2 kV2 dc2 pm2 cd2 ct2 oc3 kV3 dc3 pm3 cd3 ct3 oc4 kV4 dc4 pm4 cd4 ct4 oc5 kV5 dc5 pm5 cd5 ct5 oc6 kV6 dc6 pm6 cd6 ct6 oc7 kV7 dc7 pm7 cd7 ct7 oc8 kV8 dc8 pm8 cd8 ct8 oc9 kV9 dc9 pm9 cd9 ct9 oc10 kV10 dc10 pm10 cd10 ct10 oc11 kV11 dc11 pm11 cd11 ct11 oc12 kV12 dc12 pm12 cd12 ct12 oc13 kV13 dc13 pm13 cd13 ct13 : Value}
    (a1 : PySem.W.nsIn K mainGlobals "is_word" = some (some (.ref f1))) (l1 : K.lookup f1 = some ⟨oc1, od1, .func (PySem.W.fnOf "is_word" "is_word" (defArgs s_is_word) (defBody s_is_word) (defScope s_is_word) .none kV1 dc1 pm1 an1 cd1 ct1), sl1⟩) (c1 : PySem.W.codeIn K cd1 "is_word" = true) (k1 : PySem.W.keepIn K (.ref f1) = true)
    (a2 : PySem.W.nsIn K mainGlobals "check_word" = some (some (.ref f2))) (l2 : K.lookup f2 = some ⟨oc2, od2, .func (PySem.W.fnOf "check_word" "check_word" (defArgs s_check_word) (defBody s_check_word) (defScope s_check_word) .none kV2 dc2 pm2 an2 cd2 ct2), sl2⟩) (c2 : PySem.W.codeIn K cd2 "check_word" = true) (k2 : PySem.W.keepIn K (.ref f2) = true)
    (a3 : PySem.W.nsIn K mainGlobals "border_lengths" = some (some (.ref f3))) (l3 : K.lookup f3 = some ⟨oc3, od3, .func (PySem.W.fnOf "border_lengths" "border_lengths" (defArgs s_border_lengths) (defBody s_border_lengths) (defScope s_border_lengths) .none kV3 dc3 pm3 an3 cd3 ct3), sl3⟩) (c3 : PySem.W.codeIn K cd3 "border_lengths" = true) (k3 : PySem.W.keepIn K (.ref f3) = true)
    (a4 : PySem.W.nsIn K mainGlobals "borders" = some (some (.ref f4))) (l4 : K.lookup f4 = some ⟨oc4, od4, .func (PySem.W.fnOf "borders" "borders" (defArgs s_borders) (defBody s_borders) (defScope s_borders) .none kV4 dc4 pm4 an4 cd4 ct4), sl4⟩) (c4 : PySem.W.codeIn K cd4 "borders" = true) (k4 : PySem.W.keepIn K (.ref f4) = true)
    (a5 : PySem.W.nsIn K mainGlobals "periods" = some (some (.ref f5))) (l5 : K.lookup f5 = some ⟨oc5, od5, .func (PySem.W.fnOf "periods" "periods" (defArgs s_periods) (defBody s_periods) (defScope s_periods) .none kV5 dc5 pm5 an5 cd5 ct5), sl5⟩) (c5 : PySem.W.codeIn K cd5 "periods" = true) (k5 : PySem.W.keepIn K (.ref f5) = true)
    (a6 : PySem.W.nsIn K mainGlobals "least_period" = some (some (.ref f6))) (l6 : K.lookup f6 = some ⟨oc6, od6, .func (PySem.W.fnOf "least_period" "least_period" (defArgs s_least_period) (defBody s_least_period) (defScope s_least_period) .none kV6 dc6 pm6 an6 cd6 ct6), sl6⟩) (c6 : PySem.W.codeIn K cd6 "least_period" = true) (k6 : PySem.W.keepIn K (.ref f6) = true)
    (a7 : PySem.W.nsIn K mainGlobals "extremal_word" = some (some (.ref f7))) (l7 : K.lookup f7 = some ⟨oc7, od7, .func (PySem.W.fnOf "extremal_word" "extremal_word" (defArgs s_extremal_word) (defBody s_extremal_word) (defScope s_extremal_word) .none kV7 dc7 pm7 an7 cd7 ct7), sl7⟩) (c7 : PySem.W.codeIn K cd7 "extremal_word" = true) (k7 : PySem.W.keepIn K (.ref f7) = true)
    (a8 : PySem.W.nsIn K mainGlobals "_law_deck" = some (some (.ref f8))) (l8 : K.lookup f8 = some ⟨oc8, od8, .func (PySem.W.fnOf "_law_deck" "_law_deck" (defArgs s_law_deck) (defBody s_law_deck) (defScope s_law_deck) .none kV8 dc8 pm8 an8 cd8 ct8), sl8⟩) (c8 : PySem.W.codeIn K cd8 "_law_deck" = true) (k8 : PySem.W.keepIn K (.ref f8) = true)
    (a9 : PySem.W.nsIn K mainGlobals "_law_take" = some (some (.ref f9))) (l9 : K.lookup f9 = some ⟨oc9, od9, .func (PySem.W.fnOf "_law_take" "_law_take" (defArgs s_law_take) (defBody s_law_take) (defScope s_law_take) .none kV9 dc9 pm9 an9 cd9 ct9), sl9⟩) (c9 : PySem.W.codeIn K cd9 "_law_take" = true) (k9 : PySem.W.keepIn K (.ref f9) = true)
    (a10 : PySem.W.nsIn K mainGlobals "_law_divisor" = some (some (.ref f10))) (l10 : K.lookup f10 = some ⟨oc10, od10, .func (PySem.W.fnOf "_law_divisor" "_law_divisor" (defArgs s_law_divisor) (defBody s_law_divisor) (defScope s_law_divisor) .none kV10 dc10 pm10 an10 cd10 ct10), sl10⟩) (c10 : PySem.W.codeIn K cd10 "_law_divisor" = true) (k10 : PySem.W.keepIn K (.ref f10) = true)
    (a11 : PySem.W.nsIn K mainGlobals "_law_why" = some (some (.ref f11))) (l11 : K.lookup f11 = some ⟨oc11, od11, .func (PySem.W.fnOf "_law_why" "_law_why" (defArgs s_law_why) (defBody s_law_why) (defScope s_law_why) .none kV11 dc11 pm11 an11 cd11 ct11), sl11⟩) (c11 : PySem.W.codeIn K cd11 "_law_why" = true) (k11 : PySem.W.keepIn K (.ref f11) = true)
    (a12 : PySem.W.nsIn K mainGlobals "_law_has" = some (some (.ref f12))) (l12 : K.lookup f12 = some ⟨oc12, od12, .func (PySem.W.fnOf "_law_has" "_law_has" (defArgs s_law_has) (defBody s_law_has) (defScope s_law_has) .none kV12 dc12 pm12 an12 cd12 ct12), sl12⟩) (c12 : PySem.W.codeIn K cd12 "_law_has" = true) (k12 : PySem.W.keepIn K (.ref f12) = true)
    (a13 : PySem.W.nsIn K mainGlobals "law" = some (some (.ref f13))) (l13 : K.lookup f13 = some ⟨oc13, od13, .func (PySem.W.fnOf "law" "law" (defArgs s_law) (defBody s_law) (defScope s_law) .none kV13 dc13 pm13 an13 cd13 ct13), sl13⟩) (c13 : PySem.W.codeIn K cd13 "law" = true) (k13 : PySem.W.keepIn K (.ref f13) = true)
    {L : Addr} (aB : PySem.W.nsIn K mainGlobals "LangError" = some (some (.ref L))) (rB : PySem.W.readsIn K L (.type "type") = true) (gB : PySem.W.specialIn K (.ref L) "__getattribute__" = some (some (.builtin "type.__getattribute__"))) (vB : PySem.W.findCls K (.ref L) (.type "type") "__init__" = some (.val (.builtin "ValueError.__init__")))
    {c_InvalidWord fi_InvalidWord N_InvalidWord : Addr} {nm_InvalidWord q_InvalidWord : Str} {bs_InvalidWord bm_InvalidWord sub_InvalidWord : List Value} {sn_InvalidWord : List Str} {ab_InvalidWord : Bool} {col_InvalidWord : Option Bool} {dd_InvalidWord od_InvalidWord an_InvalidWord : Option Addr} {m0_InvalidWord m1_InvalidWord m2_InvalidWord m3_InvalidWord m5_InvalidWord : Option Value} {sl_InvalidWord : Array (Option Value)} {oc_InvalidWord kV_InvalidWord dc_InvalidWord pm_InvalidWord cd_InvalidWord ct_InvalidWord : Value}
    (aC_InvalidWord : PySem.W.nsIn K mainGlobals "InvalidWord" = some (some (.ref c_InvalidWord))) (xL_InvalidWord : K.lookup c_InvalidWord = some (excClassObj nm_InvalidWord q_InvalidWord c_InvalidWord N_InvalidWord bs_InvalidWord bm_InvalidWord true sn_InvalidWord sub_InvalidWord ab_InvalidWord col_InvalidWord dd_InvalidWord m0_InvalidWord m1_InvalidWord m2_InvalidWord m3_InvalidWord m5_InvalidWord "ValueError.__new__")) (hb_InvalidWord : PySem.HandSPX.refsVE bm_InvalidWord = true)
    (sa_InvalidWord : PySem.W.findIn K (.ref c_InvalidWord) "__setattr__" = some (some (.builtin "object.__setattr__"))) (ga_InvalidWord : PySem.W.findIn K (.ref c_InvalidWord) "__getattribute__" = some (some (.builtin "BaseException.__getattribute__"))) (gg_InvalidWord : PySem.W.findIn K (.ref c_InvalidWord) "__getattr__" = some none) (nb_InvalidWord : PySem.W.findIn K (.ref c_InvalidWord) "what" = some none)
    (ai_InvalidWord : PySem.W.findIn K (.ref c_InvalidWord) "__init__" = some (some (.ref fi_InvalidWord))) (ti_InvalidWord : PySem.W.typeIn K (.ref fi_InvalidWord) = some (.type "function")) (li_InvalidWord : K.lookup fi_InvalidWord = some ⟨oc_InvalidWord, od_InvalidWord, .func (PySem.W.fnOf "__init__" "InvalidWord.__init__" (defArgs si_InvalidWord) (defBody si_InvalidWord) (defScope si_InvalidWord) .none kV_InvalidWord dc_InvalidWord pm_InvalidWord an_InvalidWord cd_InvalidWord ct_InvalidWord), sl_InvalidWord⟩) (ci_InvalidWord : PySem.W.codeIn K cd_InvalidWord "InvalidWord.__init__" = true) (ki_InvalidWord : PySem.W.keepIn K (.ref fi_InvalidWord) = true)
    (kC_InvalidWord : PySem.W.keepIn K (.ref c_InvalidWord) = true) (eC_InvalidWord : PySem.W.subIn K (.ref c_InvalidWord) (.type "BaseException") = some true) (tC_InvalidWord : PySem.W.typeIn K (.ref c_InvalidWord) = some (.type "type")) (hC_InvalidWord : PySem.W.hasDictIn K c_InvalidWord = true) (iC_InvalidWord : PySem.W.isClsIn K c_InvalidWord = true)
    {c_TooMany fi_TooMany N_TooMany : Addr} {nm_TooMany q_TooMany : Str} {bs_TooMany bm_TooMany sub_TooMany : List Value} {sn_TooMany : List Str} {ab_TooMany : Bool} {col_TooMany : Option Bool} {dd_TooMany od_TooMany an_TooMany : Option Addr} {m0_TooMany m1_TooMany m2_TooMany m3_TooMany m5_TooMany : Option Value} {sl_TooMany : Array (Option Value)} {oc_TooMany kV_TooMany dc_TooMany pm_TooMany cd_TooMany ct_TooMany : Value}
    (aC_TooMany : PySem.W.nsIn K mainGlobals "TooMany" = some (some (.ref c_TooMany))) (xL_TooMany : K.lookup c_TooMany = some (excClassObj nm_TooMany q_TooMany c_TooMany N_TooMany bs_TooMany bm_TooMany true sn_TooMany sub_TooMany ab_TooMany col_TooMany dd_TooMany m0_TooMany m1_TooMany m2_TooMany m3_TooMany m5_TooMany "ValueError.__new__")) (hb_TooMany : PySem.HandSPX.refsVE bm_TooMany = true)
    (sa_TooMany : PySem.W.findIn K (.ref c_TooMany) "__setattr__" = some (some (.builtin "object.__setattr__"))) (ga_TooMany : PySem.W.findIn K (.ref c_TooMany) "__getattribute__" = some (some (.builtin "BaseException.__getattribute__"))) (gg_TooMany : PySem.W.findIn K (.ref c_TooMany) "__getattr__" = some none) (nb_TooMany : PySem.W.findIn K (.ref c_TooMany) "what" = some none)
    (ai_TooMany : PySem.W.findIn K (.ref c_TooMany) "__init__" = some (some (.ref fi_TooMany))) (ti_TooMany : PySem.W.typeIn K (.ref fi_TooMany) = some (.type "function")) (li_TooMany : K.lookup fi_TooMany = some ⟨oc_TooMany, od_TooMany, .func (PySem.W.fnOf "__init__" "TooMany.__init__" (defArgs si_TooMany) (defBody si_TooMany) (defScope si_TooMany) .none kV_TooMany dc_TooMany pm_TooMany an_TooMany cd_TooMany ct_TooMany), sl_TooMany⟩) (ci_TooMany : PySem.W.codeIn K cd_TooMany "TooMany.__init__" = true) (ki_TooMany : PySem.W.keepIn K (.ref fi_TooMany) = true)
    (kC_TooMany : PySem.W.keepIn K (.ref c_TooMany) = true) (eC_TooMany : PySem.W.subIn K (.ref c_TooMany) (.type "BaseException") = some true) (tC_TooMany : PySem.W.typeIn K (.ref c_TooMany) = some (.type "type")) (hC_TooMany : PySem.W.hasDictIn K c_TooMany = true) (iC_TooMany : PySem.W.isClsIn K c_TooMany = true)
    (su_InvalidWord_InvalidWord : PySem.W.subIn K (.ref c_InvalidWord) (.ref c_InvalidWord) = some true)
    (su_InvalidWord_TooMany : PySem.W.subIn K (.ref c_InvalidWord) (.ref c_TooMany) = some false)
    (su_TooMany_InvalidWord : PySem.W.subIn K (.ref c_TooMany) (.ref c_InvalidWord) = some false)
    (su_TooMany_TooMany : PySem.W.subIn K (.ref c_TooMany) (.ref c_TooMany) = some true)
    (y_gcd : PySem.W.nsIn K mainGlobals "gcd" = some (some (.builtin "math.gcd")))
    {ty_MOST_LENGTH : Tok} (y_MOST_LENGTH : PySem.W.nsIn K mainGlobals "MOST_LENGTH" = some (some (.int 400 ty_MOST_LENGTH)))
    (z1 : PySem.W.nsIn K mainGlobals "all" = some none) (z2 : PySem.W.nsIn K mainGlobals "len" = some none) (z3 : PySem.W.nsIn K mainGlobals "range" = some none) (z4 : PySem.W.nsIn K mainGlobals "list" = some none) (z5 : PySem.W.nsIn K mainGlobals "abs" = some none) (z6 : PySem.W.nsIn K mainGlobals "int" = some none) (z7 : PySem.W.nsIn K mainGlobals "max" = some none) (z8 : PySem.W.nsIn K mainGlobals "str" = some none) (z9 : PySem.W.nsIn K mainGlobals "isinstance" = some none) (z10 : PySem.W.nsIn K mainGlobals "sorted" = some none) (z11 : PySem.W.nsIn K mainGlobals "set" = some none) (z12 : PySem.W.nsIn K mainGlobals "min" = some none) :
    ∃ fd : FuncData, (∀ (s : Shared) (v : Value), BindsTo s fd ⟨[v], []⟩ [("script", v)]) ∧ ∀ base : Heap, K.In base → base.Ns mainGlobals mg → FnOk l.prog w K mg base CX0 6 fa fd ["script"] (spLaw K) := by
  have e := hfa.symm.trans (PySem.W.mg_of X G a13)
  cases e
  have hB : Blt mg := ⟨PySem.W.mg_none_of X G z1, PySem.W.mg_none_of X G z2, PySem.W.mg_none_of X G z3, PySem.W.mg_none_of X G z4, PySem.W.mg_none_of X G z5, PySem.W.mg_none_of X G z6, PySem.W.mg_none_of X G z7, PySem.W.mg_none_of X G z8, PySem.W.mg_none_of X G z9, PySem.W.mg_none_of X G z10, PySem.W.mg_none_of X G z11, PySem.W.mg_none_of X G z12⟩
  have F1 := fun_mk (st := s_is_word) l1 c1 k1
  have b1 := F1.binds (ps := ["word"]) fun _ _ _ _ _ _ us hl => match us, hl with | [_], _ => rfl
  have F2 := fun_mk (st := s_check_word) l2 c2 k2
  have b2 := F2.binds (ps := ["word"]) fun _ _ _ _ _ _ us hl => match us, hl with | [_], _ => rfl
  have F3 := fun_mk (st := s_border_lengths) l3 c3 k3
  have b3 := F3.binds (ps := ["word"]) fun _ _ _ _ _ _ us hl => match us, hl with | [_], _ => rfl
  have F4 := fun_mk (st := s_borders) l4 c4 k4
  have b4 := F4.binds (ps := ["word"]) fun _ _ _ _ _ _ us hl => match us, hl with | [_], _ => rfl
  have F5 := fun_mk (st := s_periods) l5 c5 k5
  have b5 := F5.binds (ps := ["word"]) fun _ _ _ _ _ _ us hl => match us, hl with | [_], _ => rfl
  have F6 := fun_mk (st := s_least_period) l6 c6 k6
  have b6 := F6.binds (ps := ["word"]) fun _ _ _ _ _ _ us hl => match us, hl with | [_], _ => rfl
  have F7 := fun_mk (st := s_extremal_word) l7 c7 k7
  have b7 := F7.binds (ps := ["first", "second"]) fun _ _ _ _ _ _ us hl => match us, hl with | [_, _], _ => rfl
  have F8 := fun_mk (st := s_law_deck) l8 c8 k8
  have b8 := F8.binds (ps := ["script", "cells", "each"]) fun _ _ _ _ _ _ us hl => match us, hl with | [_, _, _], _ => rfl
  have F9 := fun_mk (st := s_law_take) l9 c9 k9
  have b9 := F9.binds (ps := ["deck", "many"]) fun _ _ _ _ _ _ us hl => match us, hl with | [_, _], _ => rfl
  have F10 := fun_mk (st := s_law_divisor) l10 c10 k10
  have b10 := F10.binds (ps := ["one", "other"]) fun _ _ _ _ _ _ us hl => match us, hl with | [_, _], _ => rfl
  have F11 := fun_mk (st := s_law_why) l11 c11 k11
  have b11 := F11.binds (ps := ["first", "second"]) fun _ _ _ _ _ _ us hl => match us, hl with | [_, _], _ => rfl
  have F12 := fun_mk (st := s_law_has) l12 c12 k12
  have b12 := F12.binds (ps := ["word", "period"]) fun _ _ _ _ _ _ us hl => match us, hl with | [_, _], _ => rfl
  have F13 := fun_mk (st := s_law) l13 c13 k13
  have b13 := F13.binds (ps := ["script"]) fun _ _ _ _ _ _ us hl => match us, hl with | [_], _ => rfl
  have cr : ClX.CRead K L (.type "type") := ⟨rB, gB⟩
  have Fi_InvalidWord := fun_mk (st := si_InvalidWord) li_InvalidWord ci_InvalidWord ki_InvalidWord
  have bi_InvalidWord := Fi_InvalidWord.binds (ps := ["self", "what"]) fun _ _ _ _ _ _ us hl => match us, hl with | [_, _], _ => rfl
  have xc_InvalidWord : XC K c_InvalidWord := ⟨⟨⟨_, _, _, _, _, _, _, _, _, _, _, _, _, _, _, xL_InvalidWord, hb_InvalidWord⟩, sa_InvalidWord, eC_InvalidWord, tC_InvalidWord, kC_InvalidWord⟩, nb_InvalidWord, ⟨ga_InvalidWord, gg_InvalidWord, eC_InvalidWord, hC_InvalidWord⟩⟩
  have Fi_TooMany := fun_mk (st := si_TooMany) li_TooMany ci_TooMany ki_TooMany
  have bi_TooMany := Fi_TooMany.binds (ps := ["self", "what"]) fun _ _ _ _ _ _ us hl => match us, hl with | [_, _], _ => rfl
  have xc_TooMany : XC K c_TooMany := ⟨⟨⟨_, _, _, _, _, _, _, _, _, _, _, _, _, _, _, xL_TooMany, hb_TooMany⟩, sa_TooMany, eC_TooMany, tC_TooMany, kC_TooMany⟩, nb_TooMany, ⟨ga_TooMany, gg_TooMany, eC_TooMany, hC_TooMany⟩⟩
  have xt : XT K c_InvalidWord c_TooMany := ⟨xc_InvalidWord, xc_TooMany, exm_of eC_InvalidWord iC_InvalidWord tC_InvalidWord su_InvalidWord_InvalidWord, exm_of eC_TooMany iC_TooMany tC_TooMany su_InvalidWord_TooMany, exm_of eC_InvalidWord iC_InvalidWord tC_InvalidWord su_TooMany_InvalidWord, exm_of eC_TooMany iC_TooMany tC_TooMany su_TooMany_TooMany⟩
  have m_gcd := PySem.W.mg_of X G y_gcd
  have m_MOST_LENGTH : ∃ t, mg "MOST_LENGTH" = some (.int 400 t) := ⟨_, PySem.W.mg_of X G y_MOST_LENGTH⟩
  refine ⟨PySem.W.fnOf "law" "law" (defArgs s_law) (defBody s_law) (defScope s_law) .none kV13 dc13 pm13 an13 cd13 ct13, fun s v => .of_eq rfl, fun base _ _ => ?_⟩
  have x_InvalidWord : Xd l.prog w K mg base "InvalidWord" c_InvalidWord := ⟨xc_InvalidWord, PySem.W.mg_of X G aC_InvalidWord, _, _, ai_InvalidWord, ti_InvalidWord, oki_InvalidWord Fi_InvalidWord (PySem.W.mg_of X G aB) cr vB, bi_InvalidWord⟩
  have x_TooMany : Xd l.prog w K mg base "TooMany" c_TooMany := ⟨xc_TooMany, PySem.W.mg_of X G aC_TooMany, _, _, ai_TooMany, ti_TooMany, oki_TooMany Fi_TooMany (PySem.W.mg_of X G aB) cr vB, bi_TooMany⟩
  have d_is_word : Df l.prog w K mg base 1 "is_word" ["word"] (spD 1 rIsWord) := Df.mk' (ok_is_word F1 hB) (PySem.W.mg_of X G a1) k1 b1
  have d_check_word : Df l.prog w K mg base 2 "check_word" ["word"] (spD 1 rCheckWord) := Df.mk' (ok_check_word F2 d_is_word) (PySem.W.mg_of X G a2) k2 b2
  have d_border_lengths : Df l.prog w K mg base 1 "border_lengths" ["word"] (spD 1 rBorderLengths) := Df.mk' (ok_border_lengths F3 hB) (PySem.W.mg_of X G a3) k3 b3
  have d_borders : Df l.prog w K mg base 3 "borders" ["word"] (spD 1 rBorders) := Df.mk' (ok_borders F4 hB d_check_word d_border_lengths) (PySem.W.mg_of X G a4) k4 b4
  have d_periods : Df l.prog w K mg base 4 "periods" ["word"] (spD 1 rPeriods) := Df.mk' (ok_periods F5 hB d_borders) (PySem.W.mg_of X G a5) k5 b5
  have d_least_period : Df l.prog w K mg base 5 "least_period" ["word"] (spD 1 rLeastPeriod) := Df.mk' (ok_least_period F6 d_check_word d_periods) (PySem.W.mg_of X G a6) k6 b6
  have d_extremal_word : DfX l.prog w K mg base 3 "extremal_word" ["first", "second"] (spX 2 (rExt c_InvalidWord c_TooMany)) := DfX.mk' (ok_extremal_word F7 hB xt x_InvalidWord x_TooMany m_gcd m_MOST_LENGTH) (PySem.W.mg_of X G a7) k7 b7
  have d_law_deck : Df l.prog w K mg base 1 "_law_deck" ["script", "cells", "each"] (spDeck K) := Df.mk' (ok_law_deck F8 hB) (PySem.W.mg_of X G a8) k8 b8
  have d_law_take : Df l.prog w K mg base 1 "_law_take" ["deck", "many"] (spD 2 rTake) := Df.mk' (ok_law_take F9 hB) (PySem.W.mg_of X G a9) k9 b9
  have d_law_divisor : Df l.prog w K mg base 1 "_law_divisor" ["one", "other"] (spD 2 rDivisor) := Df.mk' (ok_law_divisor F10 hB) (PySem.W.mg_of X G a10) k10 b10
  have d_law_why : Df l.prog w K mg base 4 "_law_why" ["first", "second"] (spD 2 rWhy) := Df.mk' (ok_law_why F11 xt x_InvalidWord x_TooMany d_extremal_word) (PySem.W.mg_of X G a11) k11 b11
  have d_law_has : Df l.prog w K mg base 1 "_law_has" ["word", "period"] (spD 2 rHas) := Df.mk' (ok_law_has F12 hB) (PySem.W.mg_of X G a12) k12 b12
  exact ok_law F13 hB xt d_law_deck d_law_take d_law_divisor d_law_why d_extremal_word d_law_has d_least_period d_periods

theorem walk {l : PySem.W.OpenLaw} {q : Program} {loose : List Str} {XP : (Str → Option Value) → Heap → Prop} {YP : World → Heap → Prop} {d : DefRec} {K : Params → PySem.W.Frag} (hn : l.most = some 63) (hdf : d.params.defaults = [])
    (hY : ∀ (w : World) (h : Heap), YP w h → (K w.params).In h)
    (F : ∀ (w : World) (mg : Str → Option Value) (fa : Addr) (h : Heap), (K w.params).In h → h.Ns mainGlobals mg → mg d.name = some (.ref fa) →
      ∃ fd : FuncData, (∀ (s : Shared) (u : Value), BindsTo s fd ⟨[u], []⟩ [("script", u)]) ∧ ∀ base : Heap, (K w.params).In base → base.Ns mainGlobals mg → FnOk l.prog w (K w.params) mg base CX0 6 fa fd ["script"] (spLaw (K w.params))) :
    PySem.W.WalkO q loose XP YP l.row.toRowW d [] (fun f vs => PySem.call f vs) :=
  L2.walk_of (n := 63) (k := 6) (x := "script") (CX := fun _ => CX0) (sp := fun w => spLaw (K w.params)) hn (by decide) hdf ⟨rfl, by decide, by decide⟩ hY F (fun _ _ a ns hl _ hS => ⟨a, ns, rfl, hS, hl, fun _ => rfl⟩) fun _ _ _ _ _ z => z
end DL

open PySem PySem.W PyProof.Rows in
set_option maxRecDepth 100000 in
set_option maxHeartbeats 0 in
theorem PySem.Challenge.cw_langwork_k02_whole_two_great_periods_holds : PySem.Challenge.rw_langwork_k02_whole_two_great_periods.Holds := by
  w_on; o_law; k_head; (case hw => w_witness2)
  k_fill
  refine DL.walk (l := PySem.Challenge.rw_langwork_k02_whole_two_great_periods) rfl rfl (fun w h Y => PySem.W.kIn_of Y) ?F
  case F =>
    intro w mg fa h KX G hmg
    refine' DL.all_mk KX G hmg ?a1 ?l1 ?c1 ?k1 ?a2 ?l2 ?c2 ?k2 ?a3 ?l3 ?c3 ?k3 ?a4 ?l4 ?c4 ?k4 ?a5 ?l5 ?c5 ?k5 ?a6 ?l6 ?c6 ?k6 ?a7 ?l7 ?c7 ?k7 ?a8 ?l8 ?c8 ?k8 ?a9 ?l9 ?c9 ?k9 ?a10 ?l10 ?c10 ?k10 ?a11 ?l11 ?c11 ?k11 ?a12 ?l12 ?c12 ?k12 ?a13 ?l13 ?c13 ?k13 ?aB ?rB ?gB ?vB ?aC_InvalidWord ?xL_InvalidWord ?hb_InvalidWord ?sa_InvalidWord ?ga_InvalidWord ?gg_InvalidWord ?nb_InvalidWord ?ai_InvalidWord ?ti_InvalidWord ?li_InvalidWord ?ci_InvalidWord ?ki_InvalidWord ?kC_InvalidWord ?eC_InvalidWord ?tC_InvalidWord ?hC_InvalidWord ?iC_InvalidWord ?aC_TooMany ?xL_TooMany ?hb_TooMany ?sa_TooMany ?ga_TooMany ?gg_TooMany ?nb_TooMany ?ai_TooMany ?ti_TooMany ?li_TooMany ?ci_TooMany ?ki_TooMany ?kC_TooMany ?eC_TooMany ?tC_TooMany ?hC_TooMany ?iC_TooMany ?su_InvalidWord_InvalidWord ?su_InvalidWord_TooMany ?su_TooMany_InvalidWord ?su_TooMany_TooMany ?y_gcd ?y_MOST_LENGTH ?z1 ?z2 ?z3 ?z4 ?z5 ?z6 ?z7 ?z8 ?z9 ?z10 ?z11 ?z12
    (case a1 => k_is)
    (case l1 => k_is)
    (case c1 => k_is)
    (case k1 => k_is)
    (case a2 => k_is)
    (case l2 => k_is)
    (case c2 => k_is)
    (case k2 => k_is)
    (case a3 => k_is)
    (case l3 => k_is)
    (case c3 => k_is)
    (case k3 => k_is)
    (case a4 => k_is)
    (case l4 => k_is)
    (case c4 => k_is)
    (case k4 => k_is)
    (case a5 => k_is)
    (case l5 => k_is)
    (case c5 => k_is)
    (case k5 => k_is)
    (case a6 => k_is)
    (case l6 => k_is)
    (case c6 => k_is)
    (case k6 => k_is)
    (case a7 => k_is)
    (case l7 => k_is)
    (case c7 => k_is)
    (case k7 => k_is)
    (case a8 => k_is)
    (case l8 => k_is)
    (case c8 => k_is)
    (case k8 => k_is)
    (case a9 => k_is)
    (case l9 => k_is)
    (case c9 => k_is)
    (case k9 => k_is)
    (case a10 => k_is)
    (case l10 => k_is)
    (case c10 => k_is)
    (case k10 => k_is)
    (case a11 => k_is)
    (case l11 => k_is)
    (case c11 => k_is)
    (case k11 => k_is)
    (case a12 => k_is)
    (case l12 => k_is)
    (case c12 => k_is)
    (case k12 => k_is)
    (case a13 => k_is)
    (case l13 => k_is)
    (case c13 => k_is)
    (case k13 => k_is)
    (case aB => k_is)
    (case rB => k_is)
    (case gB => k_is)
    (case vB => k_is)
    (case aC_InvalidWord => k_is)
    (case xL_InvalidWord => k_is)
    (case hb_InvalidWord => decide +kernel)
    (case sa_InvalidWord => k_is)
    (case ga_InvalidWord => k_is)
    (case gg_InvalidWord => k_is)
    (case nb_InvalidWord => k_is)
    (case ai_InvalidWord => k_is)
    (case ti_InvalidWord => k_is)
    (case li_InvalidWord => k_is)
    (case ci_InvalidWord => k_is)
    (case ki_InvalidWord => k_is)
    (case kC_InvalidWord => k_is)
    (case eC_InvalidWord => k_is)
    (case tC_InvalidWord => k_is)
    (case hC_InvalidWord => k_is)
    (case iC_InvalidWord => k_is)
    (case aC_TooMany => k_is)
    (case xL_TooMany => k_is)
    (case hb_TooMany => decide +kernel)
    (case sa_TooMany => k_is)
    (case ga_TooMany => k_is)
    (case gg_TooMany => k_is)
    (case nb_TooMany => k_is)
    (case ai_TooMany => k_is)
    (case ti_TooMany => k_is)
    (case li_TooMany => k_is)
    (case ci_TooMany => k_is)
    (case ki_TooMany => k_is)
    (case kC_TooMany => k_is)
    (case eC_TooMany => k_is)
    (case tC_TooMany => k_is)
    (case hC_TooMany => k_is)
    (case iC_TooMany => k_is)
    (case su_InvalidWord_InvalidWord => first | rfl | k_is)
    (case su_InvalidWord_TooMany => first | rfl | k_is)
    (case su_TooMany_InvalidWord => first | rfl | k_is)
    (case su_TooMany_TooMany => first | rfl | k_is)
    (case y_gcd => k_is)
    (case y_MOST_LENGTH => k_is)
    (case z1 => k_is)
    (case z2 => k_is)
    (case z3 => k_is)
    (case z4 => k_is)
    (case z5 => k_is)
    (case z6 => k_is)
    (case z7 => k_is)
    (case z8 => k_is)
    (case z9 => k_is)
    (case z10 => k_is)
    (case z11 => k_is)
    (case z12 => k_is)


