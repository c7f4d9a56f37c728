import PyProof.Rows.All
import Wide.FinOn
import OpenK.AllK
import Wide.All
import KE.DataEq
import KE.DataIsa
import KE.DataFind
import KE.GoesZip
import KE.DataCmp
import KE.GoesMore
import HandS.IsInst
import HandS.Style
import HandS.TupAny
import HandS.TupLe
import HandS.TupMul
import KE.DataMinMax
import KE.GoesEnum
import HandS.CallSlots
import HandS.Conv
import HandS.JoinGen
import HandS.RaiseMore
import HandS.Zip
import KE.DataAny
import HandS.ForMost
import HandS.WordsExc
import HandS.ForExc
import KE.SortData
import PySem.Challenge.RW_tokenhalls_k24_whole_steps_of_deeds_at_o
set_option Elab.async false
set_option linter.all false
set_option maxRecDepth 100000
namespace Q
open PySem L2

/-! ## values -/
inductive PV where
  | non | bl (b : Bool) | int (i : Int) | str (x : Str)
  | tup (xs : List PV) | lst (xs : List PV) | scr (xs : List PV) | ref (n : Nat) | bor (i : Nat) | ext (v : V)
deriving Inhabited

inductive GO where
  | lst (xs : List PV)
  | un

inductive Knd where
  | fz (k : Bool) (vs : List V) | rd (vs : List V) | gl (n : Nat) | ow (i : Nat)

abbrev Wd := Addr → Option Knd
abbrev G := List GO

inductive SV where
  | un | val (p : PV) | own (o : GO)
abbrev Env := List SV

def SqX (K : PySem.W.Frag) (H : Hp) : Bool → Addr → List V → Prop
  | true, a, vs => SqL K H a vs
  | false, a, vs => SqT K H a vs
def HOx : Bool → List V → HO
  | true, vs => .lst vs
  | false, vs => .tup vs
/-- a written sequence, whatever the heap -/
def KSq (K : PySem.W.Frag) (k : Bool) (a : Addr) (vs : List V) : Prop := (∀ H, SqX K H k a vs) ∧ vs.length ≤ sizeLine
def InW (K : PySem.W.Frag) (W : Wd) (k : Bool) (a : Addr) (vs : List V) : Prop := W a = some (.fz k vs) ∨ KSq K k a vs ∨ (k = true ∧ W a = some (.rd vs))

mutual
def RepV (K : PySem.W.Frag) (W : Wd) : PV → V → Prop
  | .non, v => v = .non
  | .bl b, v => v = .bl b
  | .int i, v => v = .int i
  | .str x, v => v = .str x
  | .tup xs, v => ∃ a vs, v = .ref a ∧ InW K W false a vs ∧ RepVs K W xs vs
  | .lst xs, v => ∃ a vs, v = .ref a ∧ W a = some (.fz true vs) ∧ RepVs K W xs vs
  | .scr xs, v => ∃ a vs, v = .ref a ∧ InW K W true a vs ∧ RepVs K W xs vs
  | .ref n, v => ∃ a, v = .ref a ∧ W a = some (.gl n)
  | .bor _, _ => False
  | .ext u, v => v = u
def RepVs (K : PySem.W.Frag) (W : Wd) : List PV → List V → Prop
  | [], vs => vs = []
  | x :: xs, vs => ∃ w ws, vs = w :: ws ∧ RepV K W x w ∧ RepVs K W xs ws
end

def Le (W W' : Wd) : Prop := ∀ a k, W a = some k → (∀ i, k ≠ .ow i) → W' a = some k
theorem Le.refl (W : Wd) : Le W W := fun _ _ h _ => h
theorem Le.trans {A B C : Wd} (h : Le A B) (k : Le B C) : Le A C := fun a q e n => k a q (h a q e n) n
theorem Le.inW {K : PySem.W.Frag} {W W' : Wd} (h : Le W W') {k a vs} (q : InW K W k a vs) : InW K W' k a vs := by
  rcases q with q | q | ⟨z, q⟩
  · exact .inl (h _ _ q (fun i z => by cases z))
  · exact .inr (.inl q)
  · exact .inr (.inr ⟨z, h _ _ q (fun i z => by cases z)⟩)

mutual
theorem RepV.mono {K : PySem.W.Frag} {W W' : Wd} (h : Le W W') : ∀ (p : PV) (v : V), RepV K W p v → RepV K W' p v
  | .non, v, q => q
  | .bl b, v, q => q
  | .int i, v, q => q
  | .str x, v, q => q
  | .tup xs, v, ⟨a, vs, e, i, r⟩ => ⟨a, vs, e, h.inW i, RepVs.mono h xs vs r⟩
  | .lst xs, v, ⟨a, vs, e, i, r⟩ => ⟨a, vs, e, h _ _ i (fun _ z => by cases z), RepVs.mono h xs vs r⟩
  | .scr xs, v, ⟨a, vs, e, i, r⟩ => ⟨a, vs, e, h.inW i, RepVs.mono h xs vs r⟩
  | .ref n, v, ⟨a, e, q⟩ => ⟨a, e, h _ _ q (fun i z => by cases z)⟩
  | .bor _, _, q => q
  | .ext u, v, q => q
theorem RepVs.mono {K : PySem.W.Frag} {W W' : Wd} (h : Le W W') : ∀ (ps : List PV) (vs : List V), RepVs K W ps vs → RepVs K W' ps vs
  | [], vs, q => q
  | x :: xs, vs, ⟨w, ws, e, r, rs⟩ => ⟨w, ws, e, RepV.mono h x w r, RepVs.mono h xs ws rs⟩
end

section
variable {K : PySem.W.Frag} {W : Wd}
theorem RepVs.length : ∀ {xs : List PV} {vs : List V}, RepVs K W xs vs → vs.length = xs.length
  | [], vs, q => by have q : vs = [] := q; subst q; rfl
  | x :: xs, vs, ⟨w, ws, e, r, rs⟩ => by subst e; simp [RepVs.length rs]
theorem RepVs.get : ∀ {xs : List PV} {vs : List V} {i : Nat} {x : PV}, RepVs K W xs vs → xs[i]? = some x → ∃ v, vs[i]? = some v ∧ RepV K W x v
  | [], _, _, _, _, e => by simp at e
  | x :: xs, vs, 0, y, ⟨w, ws, e, r, rs⟩, h => by
    subst e; simp at h; subst h; exact ⟨w, by simp, r⟩
  | x :: xs, vs, i + 1, y, ⟨w, ws, e, r, rs⟩, h => by
    subst e
    obtain ⟨v, h1, h2⟩ := RepVs.get (i := i) rs (by simpa using h)
    exact ⟨v, by simpa using h1, h2⟩
theorem RepVs.append : ∀ {xs ys : List PV} {vs ws : List V}, RepVs K W xs vs → RepVs K W ys ws → RepVs K W (xs ++ ys) (vs ++ ws)
  | [], ys, vs, ws, q, r => by have q : vs = [] := q; subst q; exact r
  | x :: xs, ys, vs, ws, ⟨w, us, e, r, rs⟩, q => by subst e; exact ⟨w, us ++ ws, rfl, r, RepVs.append rs q⟩
theorem RepVs.one {x : PV} {v : V} (r : RepV K W x v) : RepVs K W [x] [v] := ⟨v, [], rfl, r, rfl⟩
theorem RepVs.set : ∀ {xs : List PV} {vs : List V} {i : Nat} {x : PV} {v : V}, RepVs K W xs vs → RepV K W x v → RepVs K W (xs.set i x) (vs.set i v)
  | [], vs, i, x, v, q, _ => by have q : vs = [] := q; subst q; rfl
  | _ :: xs, vs, 0, x, v, ⟨w, us, e, _, rs⟩, q => by subst e; exact ⟨v, us, rfl, q, rs⟩
  | y :: xs, vs, i + 1, x, v, ⟨w, us, e, r, rs⟩, q => by subst e; exact ⟨w, us.set i v, rfl, r, RepVs.set rs q⟩
theorem RepVs.take : ∀ {xs : List PV} {vs : List V} (n : Nat), RepVs K W xs vs → RepVs K W (xs.take n) (vs.take n)
  | xs, vs, 0, _ => by simp; rfl
  | [], vs, n + 1, q => by have q : vs = [] := q; subst q; rfl
  | x :: xs, vs, n + 1, ⟨w, us, e, r, rs⟩ => by subst e; exact ⟨w, us.take n, rfl, r, RepVs.take n rs⟩
theorem RepVs.drop : ∀ {xs : List PV} {vs : List V} (n : Nat), RepVs K W xs vs → RepVs K W (xs.drop n) (vs.drop n)
  | xs, vs, 0, q => by simpa using q
  | [], vs, n + 1, q => by have q : vs = [] := q; subst q; rfl
  | x :: xs, vs, n + 1, ⟨w, us, e, r, rs⟩ => by subst e; exact RepVs.drop n rs
theorem RepVs.reverse : ∀ {xs : List PV} {vs : List V}, RepVs K W xs vs → RepVs K W xs.reverse vs.reverse
  | [], vs, q => by have q : vs = [] := q; subst q; rfl
  | x :: xs, vs, ⟨w, us, e, r, rs⟩ => by subst e; simp; exact RepVs.append (RepVs.reverse rs) (.one r)
theorem RepVs.nil : RepVs K W [] [] := rfl
theorem RepVs.cons {x : PV} {xs : List PV} {v : V} {vs : List V} (r : RepV K W x v) (rs : RepVs K W xs vs) : RepVs K W (x :: xs) (v :: vs) := ⟨v, vs, rfl, r, rs⟩
theorem RepVs.inv {x : PV} {xs : List PV} {vs : List V} (r : RepVs K W (x :: xs) vs) : ∃ w ws, vs = w :: ws ∧ RepV K W x w ∧ RepVs K W xs ws := r
theorem RepVs.inv0 {vs : List V} (r : RepVs K W [] vs) : vs = [] := r
theorem RepVs.flatten_rep {xs : List PV} {vs : List V} (r : RepVs K W xs vs) : ∀ n, RepVs K W (List.replicate n xs).flatten (List.replicate n vs).flatten
  | 0 => rfl
  | n + 1 => by
    rw [List.replicate_succ, List.replicate_succ, List.flatten_cons, List.flatten_cons]
    exact RepVs.append r (RepVs.flatten_rep r n)
end

/-! ## objects, slots, states -/
def RepO (K : PySem.W.Frag) (W : Wd) (H : Hp) : GO → Addr → Prop
  | .lst xs, a => ∃ vs, H a = some (.lst vs) ∧ RepVs K W xs vs ∧ vs.length ≤ sizeLine
  | .un, _ => True

structure RepG (K : PySem.W.Frag) (R : Hp) (W0 W : Wd) (g : G) (H : Hp) : Prop where
  prot : ∀ a o, R a = some o → H a = some o
  base : ∀ a o, R a = some o → W a = W0 a
  dom : ∀ a k, W a = some k → ∃ o, H a = some o
  fz : ∀ a k vs, W a = some (.fz k vs) → H a = some (HOx k vs) ∧ vs.length ≤ sizeLine
  rd : ∀ a vs, W a = some (.rd vs) → Rd H a (.lst vs) ∧ vs.length ≤ sizeLine
  gl : ∀ a n, W a = some (.gl n) → R a = none ∧ ∃ o, g[n]? = some o ∧ RepO K W H o a
  uq : ∀ a b n, W a = some (.gl n) → W b = some (.gl n) → a = b
  ow : ∀ a i, W a = some (.ow i) → R a = none

def RepS (K : PySem.W.Frag) (W : Wd) (H : Hp) (i : Nat) : SV → Option (Option V) → Prop
  | .un, _ => True
  | .val p, o => ∃ v, o = some (some v) ∧ RepV K W p v
  | .own u, o => ∃ a, o = some (some (.ref a)) ∧ W a = some (.ow i) ∧ RepO K W H u a

structure Rep (K : PySem.W.Frag) (R : Hp) (W0 W : Wd) (g : G) (e : Env) (σ : St) (H : Hp) : Prop extends RepG K R W0 W g H where
  len : e.length = σ.length
  slot : ∀ i s, e[i]? = some s → RepS K W H i s (σ[i]?)

section
variable {K : PySem.W.Frag} {R : Hp} {W0 W W' : Wd} {g : G} {e : Env} {σ : St} {H H' : Hp}
theorem RepO.mono (h : Le W W') {o : GO} {a : Addr} (k : ∀ u, H a = some u → H' a = some u) (r : RepO K W H o a) : RepO K W' H' o a := by
  cases o with
  | lst xs => obtain ⟨vs, h1, h2, h3⟩ := r; exact ⟨vs, k _ h1, RepVs.mono h _ _ h2, h3⟩
  | un => trivial

theorem rd_mono {a : Addr} {vs : List V} (k : ∀ u, H a = some u → H' a = some u) (r : Rd H a (.lst vs)) : Rd H' a (.lst vs) := by
  rcases r with r | ⟨o, r⟩
  · exact .inl (k _ r)
  · exact .inr ⟨o, k _ r⟩
def putW (W : Wd) (p : Addr) (k : Knd) : Wd := fun a => if a = p then some k else W a
theorem putW_same {p : Addr} {k : Knd} : putW W p k p = some k := by simp [putW]
theorem putW_ne {p a : Addr} {k : Knd} (h : a ≠ p) : putW W p k a = W a := by simp [putW, h]
theorem putW_le {p : Addr} {k : Knd} (h : W p = none ∨ ∃ i, W p = some (.ow i)) : Le W (putW W p k) := fun a q e n => by
  by_cases z : a = p
  · subst z
    rcases h with h | ⟨i, h⟩
    · rw [h] at e; cases e
    · rw [h] at e; cases e; exact absurd rfl (n i)
  · rw [putW_ne z]; exact e

theorem RepG.fresh (r : RepG K R W0 W g H) {p : Addr} (hp : H p = none) : W p = none ∧ R p = none := by
  refine ⟨?_, ?_⟩
  · cases h : W p with
    | none => rfl
    | some k => obtain ⟨o, e⟩ := r.dom p k h; rw [hp] at e; cases e
  · cases h : R p with
    | none => rfl
    | some o => have := r.prot p o h; rw [hp] at this; cases this

/-- what is at an address that the world knows stays where another, unknown one is written -/
theorem RepG.put (r : RepG K R W0 W g H) {p : Addr} {u : HO} {k : Knd} (hW : W p = none) (hR : R p = none)
    (hk : ∀ q vs, k = .fz q vs → u = HOx q vs ∧ vs.length ≤ sizeLine) (hd : ∀ vs, k ≠ .rd vs)
    (hg : ∀ n, k = .gl n → (∃ o, g[n]? = some o ∧ RepO K (putW W p k) (upd H p u) o p) ∧ ∀ a, W a ≠ some (.gl n)) :
    RepG K R W0 (putW W p k) g (upd H p u) := by
  have le : Le W (putW W p k) := putW_le (.inl hW)
  have ne : ∀ {a o}, R a = some o → a ≠ p := fun h z => by subst z; rw [hR] at h; cases h
  refine ⟨fun a o h => ?_, fun a o h => ?_, fun a q h => ?_, fun a q vs h => ?_, fun a vs h => ?_, fun a n h => ?_, fun a b n h1 h2 => ?_, fun a i h => ?_⟩
  · rw [upd_ne (ne h)]; exact r.prot a o h
  · rw [putW_ne (ne h)]; exact r.base a o h
  · by_cases z : a = p
    · subst z; exact ⟨u, upd_same⟩
    · rw [putW_ne z] at h; rw [upd_ne z]; exact r.dom a q h
  · by_cases z : a = p
    · subst z; rw [putW_same] at h; cases h
      obtain ⟨h1, h2⟩ := hk q vs rfl
      exact ⟨by rw [upd_same, h1], h2⟩
    · rw [putW_ne z] at h
      obtain ⟨h1, h2⟩ := r.fz a q vs h
      exact ⟨by rw [upd_ne z]; exact h1, h2⟩
  · by_cases z : a = p
    · subst z; rw [putW_same] at h; cases h
      exact absurd rfl (hd vs)
    · rw [putW_ne z] at h
      obtain ⟨h1, h2⟩ := r.rd a vs h
      exact ⟨rd_mono (fun u q => by rw [upd_ne z]; exact q) h1, h2⟩
  · by_cases z : a = p
    · subst z; rw [putW_same] at h; cases h
      exact ⟨hR, (hg n rfl).1⟩
    · rw [putW_ne z] at h
      obtain ⟨h1, o, h2, h3⟩ := r.gl a n h
      exact ⟨h1, o, h2, RepO.mono le (fun u q => by rw [upd_ne z]; exact q) h3⟩
  · by_cases z : a = p
    · by_cases y : b = p
      · rw [z, y]
      · subst z; rw [putW_same] at h1; cases h1
        rw [putW_ne y] at h2
        exact absurd h2 ((hg n rfl).2 b)
    · rw [putW_ne z] at h1
      by_cases y : b = p
      · subst y; rw [putW_same] at h2; cases h2
        exact absurd h1 ((hg n rfl).2 a)
      · rw [putW_ne y] at h2; exact r.uq a b n h1 h2
  · by_cases z : a = p
    · subst z; exact hR
    · rw [putW_ne z] at h; exact r.ow a i h

theorem RepS.mono (h : Le W W') {i : Nat} {s : SV} {o : Option (Option V)} (k : ∀ a, W a = some (.ow i) → W' a = some (.ow i)) (hk : ∀ a u, W a = some (.ow i) → H a = some u → H' a = some u)
    (r : RepS K W H i s o) : RepS K W' H' i s o := by
  cases s with
  | un => trivial
  | val p => obtain ⟨v, h1, h2⟩ := r; exact ⟨v, h1, RepV.mono h _ _ h2⟩
  | own u => obtain ⟨a, h1, h2, h3⟩ := r; exact ⟨a, h1, k a h2, RepO.mono h (fun u q => hk a u h2 q) h3⟩

/-- a new frozen sequence -/
theorem Rep.newFz (r : Rep K R W0 W g e σ H) {p : Addr} {k : Bool} {vs : List V} (hp : H p = none) (hl : vs.length ≤ sizeLine) :
    Rep K R W0 (putW W p (.fz k vs)) g e σ (upd H p (HOx k vs)) ∧ Le W (putW W p (.fz k vs)) := by
  obtain ⟨hW, hR⟩ := r.toRepG.fresh hp
  have le : Le W (putW W p (.fz k vs)) := putW_le (.inl hW)
  have ne : ∀ {a k}, W a = some k → a ≠ p := fun h z => by subst z; rw [hW] at h; cases h
  refine ⟨⟨r.toRepG.put hW hR (fun q us z => by cases z; exact ⟨rfl, hl⟩) (fun _ z => by cases z) (fun n z => by cases z), r.len, fun i s h => ?_⟩, le⟩
  exact (r.slot i s h).mono le (fun a q => by rw [putW_ne (ne q)]; exact q) (fun a u q z => by rw [upd_ne (ne q)]; exact z)

/-- a slot stored -/
theorem Rep.store (r : Rep K R W0 W g e σ H) {i : Nat} {p : PV} {v : V} (hv : RepV K W p v) : Rep K R W0 W g (e.set i (.val p)) (σ.set i (some v)) H := by
  refine ⟨r.toRepG, by rw [List.length_set, List.length_set]; exact r.len, fun j s h => ?_⟩
  by_cases z : i = j
  · subst z
    rw [List.getElem?_set_self'] at h
    cases q : e[i]? with
    | none => rw [q] at h; cases h
    | some s0 =>
      rw [q] at h; cases h
      have hlt : i < σ.length := by
        rw [← r.len]; exact (List.getElem?_eq_some_iff.mp q).1
      exact ⟨v, by rw [List.getElem?_set_self hlt], hv⟩
  · rw [List.getElem?_set_ne z] at h ⊢
    exact r.slot j s h
/-- a slot forgotten on the side of the values -/
theorem Rep.forget (r : Rep K R W0 W g e σ H) {i : Nat} {o : Option V} : Rep K R W0 W g (e.set i .un) (σ.set i o) H := by
  refine ⟨r.toRepG, by rw [List.length_set, List.length_set]; exact r.len, fun j s h => ?_⟩
  by_cases z : i = j
  · subst z
    rw [List.getElem?_set_self'] at h
    cases q : e[i]? with
    | none => rw [q] at h; cases h
    | some s0 => rw [q] at h; cases h; trivial
  · rw [List.getElem?_set_ne z] at h ⊢
    exact r.slot j s h
/-- a fresh object that nobody else knows, stored as a slot's own -/
theorem Rep.storeOwn (r : Rep K R W0 W g e σ H) {i : Nat} {o : GO} {a : Addr} {u : HO} (hW : W a = none) (hR : R a = none) (hH : H a = some u) (ho : RepO K W H o a) :
    Rep K R W0 (putW W a (.ow i)) g (e.set i (.own o)) (σ.set i (some (.ref a))) H ∧ Le W (putW W a (.ow i)) := by
  have le : Le W (putW W a (.ow i)) := putW_le (.inl hW)
  have ne : ∀ {b k}, W b = some k → b ≠ a := fun h z => by subst z; rw [hW] at h; cases h
  have G' : RepG K R W0 (putW W a (.ow i)) g H := by
    have q := r.toRepG.put (u := u) (k := .ow i) hW hR (fun q vs z => by cases z) (fun _ z => by cases z) (fun n z => by cases z)
    have e : upd H a u = H := by
      funext b; by_cases z : b = a
      · subst z; rw [upd_same, hH]
      · rw [upd_ne z]
    rw [e] at q; exact q
  refine ⟨⟨G', by rw [List.length_set, List.length_set]; exact r.len, fun j s h => ?_⟩, le⟩
  by_cases z : i = j
  · subst z
    rw [List.getElem?_set_self'] at h
    cases q : e[i]? with
    | none => rw [q] at h; cases h
    | some s0 =>
      rw [q] at h; cases h
      have hlt : i < σ.length := by
        rw [← r.len]; exact (List.getElem?_eq_some_iff.mp q).1
      exact ⟨a, by rw [List.getElem?_set_self hlt], putW_same, RepO.mono le (fun _ q => q) ho⟩
  · rw [List.getElem?_set_ne z] at h ⊢
    exact (r.slot j s h).mono le (fun b q => by rw [putW_ne (ne q)]; exact q) (fun _ _ _ q => q)

/-- changing the object at an address that is a slot's own -/
theorem Rep.setOwn (r : Rep K R W0 W g e σ H) {i : Nat} {o : GO} {a : Addr} {u : HO} (hs : σ[i]? = some (some (.ref a))) (hi : ∃ s, e[i]? = some s) (hW : W a = some (.ow i))
    (ho : RepO K W (upd H a u) o a) : Rep K R W0 W g (e.set i (.own o)) σ (upd H a u) := by
  have hR := r.ow a i hW
  have ne : ∀ {b k}, W b = some k → k ≠ .ow i → b ≠ a := fun h n z => by subst z; rw [hW] at h; cases h; exact n rfl
  refine ⟨⟨fun b o h => ?_, r.base, fun b k h => ?_, fun b k vs h => ?_, fun b vs h => ?_, fun b n h => ?_, r.uq, r.ow⟩, by rw [List.length_set]; exact r.len, fun j s h => ?_⟩
  · rw [upd_ne (fun z => by subst z; rw [hR] at h; cases h)]; exact r.prot b o h
  · by_cases z : b = a
    · subst z; exact ⟨u, upd_same⟩
    · rw [upd_ne z]; exact r.dom b k h
  · have z := ne h (fun q => by cases q)
    obtain ⟨h1, h2⟩ := r.fz b k vs h
    exact ⟨by rw [upd_ne z]; exact h1, h2⟩
  · have z := ne h (fun q => by cases q)
    obtain ⟨h1, h2⟩ := r.rd b vs h
    exact ⟨rd_mono (fun u q => by rw [upd_ne z]; exact q) h1, h2⟩
  · have z := ne h (fun q => by cases q)
    obtain ⟨h1, o', h2, h3⟩ := r.gl b n h
    exact ⟨h1, o', h2, RepO.mono (Le.refl _) (fun u q => by rw [upd_ne z]; exact q) h3⟩
  · by_cases z : i = j
    · subst z
      rw [List.getElem?_set_self'] at h
      obtain ⟨s0, q⟩ := hi
      rw [q] at h; cases h
      exact ⟨a, hs, hW, ho⟩
    · rw [List.getElem?_set_ne z] at h
      refine (r.slot j s h).mono (Le.refl _) (fun _ q => q) (fun b u' q w => ?_)
      rw [upd_ne (ne q (fun y => by cases y; exact z rfl))]; exact w

/-- an own slot frozen -/
theorem Rep.freeze (r : Rep K R W0 W g e σ H) {i : Nat} {xs : List PV} (h : e[i]? = some (.own (.lst xs))) :
    ∃ W', Le W W' ∧ Rep K R W0 W' g (e.set i (.val (.lst xs))) σ H := by
  obtain ⟨a, hs, hW, vs, hH, hr, hl⟩ := r.slot i _ h
  have hR := r.ow a i hW
  have le : Le W (putW W a (.fz true vs)) := putW_le (.inr ⟨i, hW⟩)
  have ne : ∀ {b k}, W b = some k → k ≠ .ow i → b ≠ a := fun h n z => by subst z; rw [hW] at h; cases h; exact n rfl
  refine ⟨_, le, ⟨fun b o h => r.prot b o h, fun b o h => ?_, fun b k h => ?_, fun b k us h => ?_, fun b us h => ?_, fun b n h => ?_, fun b c n h1 h2 => ?_, fun b j h => ?_⟩, by rw [List.length_set]; exact r.len, fun j s hj => ?_⟩
  · rw [putW_ne (fun z => by subst z; rw [hR] at h; cases h)]; exact r.base b o h
  · by_cases z : b = a
    · subst z; exact ⟨_, hH⟩
    · rw [putW_ne z] at h; exact r.dom b k h
  · by_cases z : b = a
    · subst z; rw [putW_same] at h; cases h; exact ⟨hH, hl⟩
    · rw [putW_ne z] at h; exact r.fz b k us h
  · by_cases z : b = a
    · subst z; rw [putW_same] at h; cases h
    · rw [putW_ne z] at h; exact r.rd b us h
  · by_cases z : b = a
    · subst z; rw [putW_same] at h; cases h
    · rw [putW_ne z] at h
      obtain ⟨h1, o', h2, h3⟩ := r.gl b n h
      exact ⟨h1, o', h2, RepO.mono le (fun _ q => q) h3⟩
  · by_cases z : b = a
    · subst z; rw [putW_same] at h1; cases h1
    · by_cases y : c = a
      · subst y; rw [putW_same] at h2; cases h2
      · rw [putW_ne z] at h1; rw [putW_ne y] at h2; exact r.uq b c n h1 h2
  · by_cases z : b = a
    · subst z; exact hR
    · rw [putW_ne z] at h; exact r.ow b j h
  · by_cases z : i = j
    · subst z
      rw [List.getElem?_set_self', h] at hj
      cases hj
      exact ⟨.ref a, hs, a, vs, rfl, putW_same, RepVs.mono le _ _ hr⟩
    · rw [List.getElem?_set_ne z] at hj
      refine (r.slot j s hj).mono le (fun b q => ?_) (fun _ _ _ q => q)
      rw [putW_ne (ne q (fun y => by cases y; exact z rfl))]; exact q

/-- a fresh object that nobody else knows, frozen -/
theorem Rep.frozen (r : Rep K R W0 W g e σ H) {a : Addr} {vs : List V} (hW : W a = none) (hR : R a = none) (hH : H a = some (.lst vs)) (hl : vs.length ≤ sizeLine) :
    Rep K R W0 (putW W a (.fz true vs)) g e σ H ∧ Le W (putW W a (.fz true vs)) := by
  have le : Le W (putW W a (.fz true vs)) := putW_le (.inl hW)
  have ne : ∀ {b k}, W b = some k → b ≠ a := fun h z => by subst z; rw [hW] at h; cases h
  have G' : RepG K R W0 (putW W a (.fz true vs)) g H := by
    have q := r.toRepG.put (u := .lst vs) (k := .fz true vs) hW hR (fun q us z => by cases z; exact ⟨rfl, hl⟩) (fun _ z => by cases z) (fun n z => by cases z)
    have e : upd H a (.lst vs) = H := by
      funext b; by_cases z : b = a
      · subst z; rw [upd_same, hH]
      · rw [upd_ne z]
    rw [e] at q; exact q
  refine ⟨⟨G', r.len, fun j s h => ?_⟩, le⟩
  exact (r.slot j s h).mono le (fun b q => by rw [putW_ne (ne q)]; exact q) (fun _ _ _ q => q)

theorem RepG.glen (r : RepG K R W0 W g H) {a : Addr} {n : Nat} (h : W a = some (.gl n)) : n < g.length := by
  obtain ⟨_, o, e, _⟩ := r.gl a n h
  exact (List.getElem?_eq_some_iff.mp e).1
/-- a fresh object that nobody else knows, put into the store -/
theorem Rep.newGl (r : Rep K R W0 W g e σ H) {o : GO} {a : Addr} {u : HO} (hW : W a = none) (hR : R a = none) (hH : H a = some u) (ho : RepO K W H o a) :
    Rep K R W0 (putW W a (.gl g.length)) (g ++ [o]) e σ H ∧ Le W (putW W a (.gl g.length)) := by
  have le : Le W (putW W a (.gl g.length)) := putW_le (.inl hW)
  have ne : ∀ {b k}, W b = some k → b ≠ a := fun h z => by subst z; rw [hW] at h; cases h
  have r' : RepG K R W0 W (g ++ [o]) H := ⟨r.prot, r.base, r.dom, r.fz, r.rd, fun b n h => by
    obtain ⟨h1, o', h2, h3⟩ := r.gl b n h
    exact ⟨h1, o', by rw [List.getElem?_append_left (r.toRepG.glen h)]; exact h2, h3⟩, r.uq, r.ow⟩
  have e : upd H a u = H := by
    funext b; by_cases z : b = a
    · subst z; rw [upd_same, hH]
    · rw [upd_ne z]
  have G' : RepG K R W0 (putW W a (.gl g.length)) (g ++ [o]) H := by
    have q := r'.put (u := u) (k := .gl g.length) hW hR (fun q vs z => by cases z) (fun _ z => by cases z) (fun n z => by
      cases z
      refine ⟨⟨o, by simp, ?_⟩, fun b h => absurd (r.toRepG.glen h) (Nat.lt_irrefl _)⟩
      rw [e]; exact RepO.mono le (fun _ q => q) ho)
    rw [e] at q; exact q
  refine ⟨⟨G', r.len, fun j s h => ?_⟩, le⟩
  exact (r.slot j s h).mono le (fun b q => by rw [putW_ne (ne q)]; exact q) (fun _ _ _ q => q)

/-- changing an object of the store -/
theorem Rep.setGl (r : Rep K R W0 W g e σ H) {n : Nat} {o : GO} {a : Addr} {u : HO} (hW : W a = some (.gl n)) (ho : RepO K W (upd H a u) o a) : Rep K R W0 W (g.set n o) e σ (upd H a u) := by
  obtain ⟨hR, o0, e0, _⟩ := r.gl a n hW
  have ne : ∀ {b k}, W b = some k → k ≠ .gl n → b ≠ a := fun h n z => by subst z; rw [hW] at h; cases h; exact n rfl
  refine ⟨⟨fun b o h => ?_, r.base, fun b k h => ?_, fun b k vs h => ?_, fun b vs h => ?_, fun b m h => ?_, r.uq, r.ow⟩, r.len, fun j s h => ?_⟩
  · rw [upd_ne (fun z => by subst z; rw [hR] at h; cases h)]; exact r.prot b o h
  · by_cases z : b = a
    · subst z; exact ⟨u, upd_same⟩
    · rw [upd_ne z]; exact r.dom b k h
  · have z := ne h (fun q => by cases q)
    obtain ⟨h1, h2⟩ := r.fz b k vs h
    exact ⟨by rw [upd_ne z]; exact h1, h2⟩
  · have z := ne h (fun q => by cases q)
    obtain ⟨h1, h2⟩ := r.rd b vs h
    exact ⟨rd_mono (fun u q => by rw [upd_ne z]; exact q) h1, h2⟩
  · obtain ⟨h1, o', h2, h3⟩ := r.gl b m h
    refine ⟨h1, ?_⟩
    by_cases z : m = n
    · subst z
      have : b = a := r.uq b a m h hW
      subst this
      exact ⟨o, by rw [List.getElem?_set_self (r.toRepG.glen hW)], ho⟩
    · refine ⟨o', by rw [List.getElem?_set_ne (Ne.symm z)]; exact h2, RepO.mono (Le.refl _) (fun u q => ?_) h3⟩
      rw [upd_ne (ne h (fun y => by cases y; exact z rfl))]; exact q
  · exact (r.slot j s h).mono (Le.refl _) (fun _ q => q) (fun b u' q w => by rw [upd_ne (ne q (fun y => by cases y))]; exact w)

/-- one more protected object -/
theorem Rep.guard (r : Rep K R W0 W g e σ H) {D : Addr} {o : HO} (hW : W D = none) (hH : H D = some o) : Rep K (upd R D o) (fun a => if a = D then none else W0 a) W g e σ H := by
  have ne : ∀ {b k}, W b = some k → b ≠ D := fun h z => by subst z; rw [hW] at h; cases h
  refine ⟨⟨fun a u h => ?_, fun a u h => ?_, r.dom, r.fz, r.rd, fun a n h => ?_, r.uq, fun a i h => ?_⟩, r.len, r.slot⟩
  · by_cases z : a = D
    · subst z; rw [upd_same] at h; cases h; exact hH
    · rw [upd_ne z] at h; exact r.prot a u h
  · by_cases z : a = D
    · subst z; simp [hW]
    · rw [upd_ne z] at h; simp [z]; exact r.base a u h
  · obtain ⟨h1, h2⟩ := r.gl a n h
    exact ⟨by rw [upd_ne (ne h)]; exact h1, h2⟩
  · rw [upd_ne (ne h)]; exact r.ow a i h
theorem Rep.unguard {D : Addr} {o : HO} (r : Rep K (upd R D o) (fun a => if a = D then none else W0 a) W g e σ H) (hR : R D = none) : Rep K R W0 W g e σ H ∧ W D = none ∧ H D = some o := by
  have ne : ∀ {b u}, R b = some u → b ≠ D := fun h z => by subst z; rw [hR] at h; cases h
  have q := r.base D o upd_same
  refine ⟨⟨⟨fun a u h => r.prot a u (by rw [upd_ne (ne h)]; exact h), fun a u h => ?_, r.dom, r.fz, r.rd, fun a n h => ?_, r.uq, fun a i h => ?_⟩, r.len, r.slot⟩, by simpa using q, r.prot D o upd_same⟩
  · have q := r.base a u (by rw [upd_ne (ne h)]; exact h)
    simpa [ne h] using q
  · obtain ⟨h1, h2⟩ := r.gl a n h
    refine ⟨?_, h2⟩
    by_cases z : a = D
    · subst z; exact hR
    · rw [upd_ne z] at h1; exact h1
  · have h1 := r.ow a i h
    by_cases z : a = D
    · subst z; exact hR
    · rw [upd_ne z] at h1; exact h1
/-- the protected part loosened -/
theorem Rep.H_eq (r : Rep K R W0 W g e σ H) {H' : Hp} (h : H = H') : Rep K R W0 W g e σ H' := h ▸ r
end
end Q

namespace Q
open PySem L2

/-! ## results -/
structure Exn where
  cls : Str
  fs : List (Str × PV)
inductive Res (α : Type) where
  | ok (v : α) (g : G) | exc (x : Exn) (g : G) | bad
@[reducible] def Res.bind {α β : Type} (r : Res α) (k : α → G → Res β) : Res β :=
  match r with
  | .ok v g => k v g
  | .exc x g => .exc x g
  | .bad => .bad
inductive RS where
  | nx (e : Env) (g : G) | rt (v : PV) (g : G) | bk (e : Env) (g : G) | ct (e : Env) (g : G) | exc (x : Exn) (e : Env) (g : G) | bad
abbrev EE := Env → G → Res PV
abbrev EL := Env → G → Res (List PV)
abbrev ET := Env → G → Res Bool
abbrev SS := Env → G → RS
abbrev Fn := List PV → G → Res PV
abbrev MG := Str → Option Value

/-- how an exception lies -/
def RepX (mg : MG) (K : PySem.W.Frag) (W : Wd) (x : Exn) (cls : Value) (d : Option Addr) (H : Hp) : Prop :=
  mg x.cls = some cls ∧ (x.fs = [] → d = none) ∧ (x.fs ≠ [] → ∃ dx ws, d = some dx ∧ H dx = some (.xd ws) ∧ ws.map (·.1) = x.fs.map (·.1) ∧ RepVs K W (x.fs.map (·.2)) (ws.map (·.2)))

/-- a value that may be a slot's own, borrowed -/
def RepT (K : PySem.W.Frag) (W : Wd) (e : Env) (σ : St) : PV → V → Prop
  | .bor i, v => (∃ o, e[i]? = some (.own o)) ∧ σ[i]? = some (some v)
  | .non, v => RepV K W .non v
  | .bl b, v => RepV K W (.bl b) v
  | .int b, v => RepV K W (.int b) v
  | .str b, v => RepV K W (.str b) v
  | .tup b, v => RepV K W (.tup b) v
  | .lst b, v => RepV K W (.lst b) v
  | .scr b, v => RepV K W (.scr b) v
  | .ref b, v => RepV K W (.ref b) v
  | .ext b, v => RepV K W (.ext b) v
def RepTs (K : PySem.W.Frag) (W : Wd) (e : Env) (σ : St) : List PV → List V → Prop
  | [], vs => vs = []
  | x :: xs, vs => ∃ w ws, vs = w :: ws ∧ RepT K W e σ x w ∧ RepTs K W e σ xs ws
section
variable {K : PySem.W.Frag} {W W' : Wd} {e : Env} {σ : St}
theorem RepV.t {p : PV} {v : V} (r : RepV K W p v) : RepT K W e σ p v := by
  cases p with
  | bor i => exact (show False from r).elim
  | _ => exact r
theorem RepT.mono (h : Le W W') {p : PV} {v : V} (r : RepT K W e σ p v) : RepT K W' e σ p v := by
  cases p with
  | bor i => exact r
  | _ => exact RepV.mono h _ _ r
theorem RepTs.mono (h : Le W W') : ∀ {ps : List PV} {vs : List V}, RepTs K W e σ ps vs → RepTs K W' e σ ps vs
  | [], _, q => q
  | _ :: _, _, ⟨w, ws, z, r, rs⟩ => ⟨w, ws, z, r.mono h, RepTs.mono h rs⟩
end

section
variable (mg : MG) (K : PySem.W.Frag) (R : Hp) (W0 : Wd) (e : Env) (σ : St) (wx : WX)
/-- an outcome from the world W on -/
def Oc {α : Type} (W : Wd) (r : Res α) (C : α → Wd → G → Hp → Prop) : Prop :=
  match r with
  | .ok a g' => ∀ W' H', Le W W' → Rep K R W0 W' g' e σ H' → C a W' g' H'
  | .exc x g' => ∀ W' H' cls d, Le W W' → Rep K R W0 W' g' e σ H' → RepX mg K W' x cls d H' → wx cls d σ H'
  | .bad => False
end
section
variable {mg : MG} {K : PySem.W.Frag} {R : Hp} {W0 W W' : Wd} {e : Env} {σ : St} {wx : WX} {α β : Type}
theorem Oc.mono {r : Res α} {C : α → Wd → G → Hp → Prop} (l : Le W W') (h : Oc mg K R W0 e σ wx W r C) : Oc mg K R W0 e σ wx W' r C := by
  cases r with
  | ok a g => exact fun W2 H2 l2 rep => h W2 H2 (l.trans l2) rep
  | exc x g => exact fun W2 H2 cls d l2 rep => h W2 H2 cls d (l.trans l2) rep
  | bad => exact h
theorem Oc.imp {r : Res α} {C C' : α → Wd → G → Hp → Prop} (h : Oc mg K R W0 e σ wx W r C) (k : ∀ a W' g' H', Le W W' → Rep K R W0 W' g' e σ H' → C a W' g' H' → C' a W' g' H') : Oc mg K R W0 e σ wx W r C' := by
  cases r with
  | ok a g => exact fun W2 H2 l2 rep => k a W2 g H2 l2 rep (h W2 H2 l2 rep)
  | exc x g => exact h
  | bad => exact h
theorem Oc.bind {r : Res α} {k : α → G → Res β} {C : β → Wd → G → Hp → Prop} (h : Oc mg K R W0 e σ wx W (r.bind k) C) : Oc mg K R W0 e σ wx W r (fun a W' g' H' => Oc mg K R W0 e σ wx W' (k a g') C) := by
  cases r with
  | ok a g => exact fun W2 H2 l2 rep => Oc.mono l2 h
  | exc x g => exact h
  | bad => exact h
end

/-! ## judgements -/
def tE (mg : MG) (K : PySem.W.Frag) (wx : WX) (f : EE) : TE := fun σ H Q => ∃ R W0 W g e, Rep K R W0 W g e σ H ∧
  Oc mg K R W0 e σ wx W (f e g) (fun p W' _ H' => ∀ v, RepV K W' p v → Q v H')
def tB (mg : MG) (K : PySem.W.Frag) (wx : WX) (f : EE) : TE := fun σ H Q => ∃ R W0 W g e, Rep K R W0 W g e σ H ∧
  Oc mg K R W0 e σ wx W (f e g) (fun p W' _ H' => ∀ v, RepT K W' e σ p v → Q v H')
def tF (mg : MG) (K : PySem.W.Frag) (wx : WX) (f : EL) : TE := fun σ H Q => ∃ R W0 W g e, Rep K R W0 W g e σ H ∧
  Oc mg K R W0 e σ wx W (f e g) (fun xs W' _ H' => ∀ a vs, W' a = none → R a = none → H' a = some (.lst vs) → RepVs K W' xs vs → vs.length ≤ sizeLine → Q (.ref a) H')
def tT (mg : MG) (K : PySem.W.Frag) (wx : WX) (f : ET) : TT := fun σ H Q => ∃ R W0 W g e, Rep K R W0 W g e σ H ∧
  Oc mg K R W0 e σ wx W (f e g) (fun b _ _ H' => Q b H')
def tA (mg : MG) (K : PySem.W.Frag) (wx : WX) (f : EL) : TA := fun σ H Q => ∃ R W0 W g e, Rep K R W0 W g e σ H ∧
  Oc mg K R W0 e σ wx W (f e g) (fun ps W' _ H' => ∀ vs, RepVs K W' ps vs → Q vs H')
def tAB (mg : MG) (K : PySem.W.Frag) (wx : WX) (f : EL) : TA := fun σ H Q => ∃ R W0 W g e, Rep K R W0 W g e σ H ∧
  Oc mg K R W0 e σ wx W (f e g) (fun ps W' _ H' => ∀ vs, RepTs K W' e σ ps vs → Q vs H')

def OcS (mg : MG) (K : PySem.W.Frag) (R : Hp) (W0 : Wd) (wx : WX) (W : Wd) (r : RS) (D : Ends) : Prop :=
  match r with
  | .nx e' g' => ∀ W' σ' H', Le W W' → Rep K R W0 W' g' e' σ' H' → D.nx σ' H'
  | .bk e' g' => ∀ W' σ' H', Le W W' → Rep K R W0 W' g' e' σ' H' → D.bk σ' H'
  | .ct e' g' => ∀ W' σ' H', Le W W' → Rep K R W0 W' g' e' σ' H' → D.ct σ' H'
  | .rt p g' => ∀ W' v H', Le W W' → RepG K R W0 W' g' H' → RepV K W' p v → D.rt v H'
  | .exc x e' g' => ∀ W' σ' H' cls d, Le W W' → Rep K R W0 W' g' e' σ' H' → RepX mg K W' x cls d H' → wx cls d σ' H'
  | .bad => False
theorem OcS.mono {mg : MG} {K : PySem.W.Frag} {R : Hp} {W0 W W' : Wd} {wx : WX} {r : RS} {D : Ends} (l : Le W W') (h : OcS mg K R W0 wx W r D) : OcS mg K R W0 wx W' r D := by
  cases r with
  | nx e g => exact fun W2 s2 H2 l2 rep => h W2 s2 H2 (l.trans l2) rep
  | bk e g => exact fun W2 s2 H2 l2 rep => h W2 s2 H2 (l.trans l2) rep
  | ct e g => exact fun W2 s2 H2 l2 rep => h W2 s2 H2 (l.trans l2) rep
  | rt p g => exact fun W2 v H2 l2 rep => h W2 v H2 (l.trans l2) rep
  | exc x e g => exact fun W2 s2 H2 cls d l2 rep => h W2 s2 H2 cls d (l.trans l2) rep
  | bad => exact h
def tS (mg : MG) (K : PySem.W.Frag) (wx : WX) (f : SS) : TS := fun D σ H => ∃ R W0 W g e, Rep K R W0 W g e σ H ∧ OcS mg K R W0 wx W (f e g) D

def QE (X : Cx) (wx : WX) (x : Expr) (f : EE) : Prop := PE X x (tE X.mg X.K wx f)
def QB (X : Cx) (wx : WX) (x : Expr) (f : EE) : Prop := PE X x (tB X.mg X.K wx f)
def QF (X : Cx) (wx : WX) (x : Expr) (f : EL) : Prop := PE X x (tF X.mg X.K wx f)
def QT (X : Cx) (wx : WX) (x : Expr) (f : ET) : Prop := PT X x (tT X.mg X.K wx f)
def QW (X : Cx) (wx : WX) (x : Expr) (f : ET) : Prop := PW X x (tT X.mg X.K wx f)
def QA (X : Cx) (wx : WX) (xs : List Expr) (f : EL) : Prop := PA X xs (tA X.mg X.K wx f)
def QAB (X : Cx) (wx : WX) (xs : List Expr) (f : EL) : Prop := PA X xs (tAB X.mg X.K wx f)
def QS (X : Cx) (wx : WX) (s : Stmt) (f : SS) : Prop := PS X s (tS X.mg X.K wx f)
def QSs (X : Cx) (wx : WX) (s : List Stmt) (f : SS) : Prop := PSs X s (tS X.mg X.K wx f)

theorem PE.weak {X : Cx} {x : Expr} {t t' : TE} (h : PE X x t) (k : ∀ σ H Q, t' σ H Q → t σ H Q) : PE X x t' := ⟨fun pins s σ H Q I q => h.run pins s σ H Q I (k σ H Q q)⟩
theorem PT.weak {X : Cx} {x : Expr} {t t' : TT} (h : PT X x t) (k : ∀ σ H Q, t' σ H Q → t σ H Q) : PT X x t' := ⟨fun pins s σ H Q I q => h.run pins s σ H Q I (k σ H Q q)⟩
theorem PW.weak {X : Cx} {x : Expr} {t t' : TT} (h : PW X x t) (k : ∀ σ H Q, t' σ H Q → t σ H Q) : PW X x t' := ⟨fun wh pins s σ H Q I q => h.run wh pins s σ H Q I (k σ H Q q)⟩
theorem PA.weak {X : Cx} {x : List Expr} {t t' : TA} (h : PA X x t) (k : ∀ σ H Q, t' σ H Q → t σ H Q) : PA X x t' := ⟨fun pos pins s σ H Q I q => h.run pos pins s σ H Q I (k σ H Q q)⟩
theorem PS.weak {X : Cx} {x : Stmt} {t t' : TS} (h : PS X x t) (k : ∀ D σ H, t' D σ H → t D σ H) : PS X x t' := ⟨fun pins s σ H D I q => h.run pins s σ H D I (k D σ H q)⟩
theorem PSs.weak {X : Cx} {x : List Stmt} {t t' : TS} (h : PSs X x t) (k : ∀ D σ H, t' D σ H → t D σ H) : PSs X x t' := ⟨fun pins s σ H D I q => h.run pins s σ H D I (k D σ H q)⟩

section
variable {X : Cx} {wx : WX} {x y : Expr} {f : EE} {pos : Pos}
/-- a value is a borrowed value -/
theorem QE.b (h : QE X wx x f) : QB X wx x f := PE.weak h fun σ H Q ⟨R, W0, W, g, e, rep, q⟩ =>
  ⟨R, W0, W, g, e, rep, q.imp fun p W' g' H' l r c v rv => c v rv.t⟩
def eLst (f : EL) : EE := fun e g => (f e g).bind fun xs g' => .ok (.lst xs) g'
/-- a new list, frozen -/
theorem QF.e {f : EL} (h : QF X wx x f) : QE X wx x (eLst f) := PE.weak h fun σ H Q ⟨R, W0, W, g, e, rep, q⟩ => by
  refine ⟨R, W0, W, g, e, rep, q.bind.imp fun xs W' g' H' l r c a vs hW hR hH hr hl => ?_⟩
  obtain ⟨r', l'⟩ := r.frozen hW hR hH hl
  exact c _ _ l' r' _ ⟨a, vs, rfl, putW_same, RepVs.mono l' _ _ hr⟩
theorem QF.b {f : EL} (h : QF X wx x f) : QB X wx x (eLst f) := QE.b (QF.e h)
def eGlo (f : EL) : EE := fun e g => (f e g).bind fun xs g' => .ok (.ref g'.length) (g' ++ [.lst xs])
/-- a new list, into the store -/
theorem QF.g {f : EL} (h : QF X wx x f) : QE X wx x (eGlo f) := PE.weak h fun σ H Q ⟨R, W0, W, g, e, rep, q⟩ => by
  refine ⟨R, W0, W, g, e, rep, q.bind.imp fun xs W' g' H' l r c a vs hW hR hH hr hl => ?_⟩
  obtain ⟨r', l'⟩ := r.newGl (o := .lst xs) hW hR hH ⟨vs, hH, hr, hl⟩
  exact c _ _ l' r' _ ⟨a, rfl, putW_same⟩

/-! ## names and constants -/
def eVar (i : Nat) : EE := fun e g => match e[i]? with
  | some (.val p) => .ok p g
  | _ => .bad
theorem q_var (i : Nat) {n : Str} (hN : X.N[i]? = some n := by rfl) (hv : Vis X.env.scope n := by first | exact Or.inl rfl | exact Or.inr (Or.inl rfl) | exact Or.inr (Or.inr rfl)) (hd : (n == ("__debug__" : Str)) = false := by decide)
    (hcd : (n == ("__classdict__" : Str)) = false := by decide) : QE X wx (.Name n pos) (eVar i) := PE.weak (pe_var hN hv hd hcd) fun σ H Q ⟨R, W0, W, g, e, rep, q⟩ => by
  unfold eVar at q
  cases he : e[i]? with
  | none => rw [he] at q; exact q.elim
  | some s =>
    rw [he] at q
    cases s with
    | val p =>
      obtain ⟨v, h1, h2⟩ := rep.slot i _ he
      exact ⟨v, h1, q W H (Le.refl _) rep v h2⟩
    | _ => exact q.elim
/-- a slot's own object, borrowed -/
def eBor (i : Nat) : EE := fun e g => match e[i]? with
  | some (.own _) => .ok (.bor i) g
  | _ => .bad
theorem q_bor (i : Nat) {n : Str} (hN : X.N[i]? = some n := by rfl) (hv : Vis X.env.scope n := by first | exact Or.inl rfl | exact Or.inr (Or.inl rfl) | exact Or.inr (Or.inr rfl)) (hd : (n == ("__debug__" : Str)) = false := by decide)
    (hcd : (n == ("__classdict__" : Str)) = false := by decide) : QB X wx (.Name n pos) (eBor i) := PE.weak (pe_var hN hv hd hcd) fun σ H Q ⟨R, W0, W, g, e, rep, q⟩ => by
  unfold eBor at q
  cases he : e[i]? with
  | none => rw [he] at q; exact q.elim
  | some s =>
    rw [he] at q
    cases s with
    | own o =>
      obtain ⟨a, h1, h2⟩ := rep.slot i _ he
      exact ⟨.ref a, h1, q W H (Le.refl _) rep _ ⟨⟨o, he⟩, h1⟩⟩
    | _ => exact q.elim
def eC (p : PV) : EE := fun _ g => .ok p g
theorem q_const {p : PV} {v : V} (h : PE X x (tC v)) (r : ∀ W, RepV X.K W p v) : QE X wx x (eC p) := PE.weak h fun σ H Q ⟨R, W0, W, g, e, rep, q⟩ => q W H (Le.refl _) rep v (r W)
theorem q_int {i j} : QE X wx (.Constant (.int i) j pos) (eC (.int i)) := q_const pe_int fun _ => rfl
theorem q_bl {b j} : QE X wx (.Constant (.bool b) j pos) (eC (.bl b)) := q_const pe_bl fun _ => rfl
theorem q_non {j} : QE X wx (.Constant .none j pos) (eC .non) := q_const pe_non fun _ => rfl
theorem q_str {s j} : QE X wx (.Constant (.str s) j pos) (eC (.str s)) := q_const pe_str fun _ => rfl
theorem q_glob {n : Str} {p : PV} {v : V} {u : Value} (hg : Gl X n) (hm : X.mg n = some u) (r : RelV v u) (rp : ∀ W, RepV X.K W p v) (hd : (n == ("__debug__" : Str)) = false := by decide) : QE X wx (.Name n pos) (eC p) := q_const (pe_glob hg hm r hd) rp
end

/-! ## operations by values -/
/-- z comes of the values of x and y -/
def OpS (K : PySem.W.Frag) (r : R2) (op : Env → G → PV → PV → Option PV) : Prop :=
  ∀ (R : Hp) (W0 W : Wd) (g : G) (e : Env) (σ : St) (H : Hp) (x y z : PV) (v u : V) (Q : VK), Rep K R W0 W g e σ H → RepT K W e σ x v → RepT K W e σ y u → op e g x y = some z →
    (∀ W' H' w, Le W W' → Rep K R W0 W' g e σ H' → RepV K W' z w → Q w H') → r v u H Q
def OpF (K : PySem.W.Frag) (r : R2) (op : Env → G → PV → PV → Option (List PV)) : Prop :=
  ∀ (R : Hp) (W0 W : Wd) (g : G) (e : Env) (σ : St) (H : Hp) (x y : PV) (z : List PV) (v u : V) (Q : VK), Rep K R W0 W g e σ H → RepT K W e σ x v → RepT K W e σ y u → op e g x y = some z →
    (∀ W' H' a vs, Le W W' → Rep K R W0 W' g e σ H' → W' a = none → R a = none → H' a = some (.lst vs) → RepVs K W' z vs → vs.length ≤ sizeLine → Q (.ref a) H') → r v u H Q
def optR {α : Type} (o : Option α) (g : G) : Res α := match o with
  | some z => .ok z g
  | none => .bad
def eBin (op : Env → G → PV → PV → Option PV) (fa fb : EE) : EE := fun e g => (fa e g).bind fun a g1 => (fb e g1).bind fun b g2 => optR (op e g2 a b) g2
def eBinF (op : Env → G → PV → PV → Option (List PV)) (fa fb : EE) : EL := fun e g => (fa e g).bind fun a g1 => (fb e g1).bind fun b g2 => optR (op e g2 a b) g2

section
variable {X : Cx} {wx : WX} {x y : Expr} {fa fb : EE} {pos : Pos}
/-- the reading of two operands one after the other -/
theorem tE_bin {r : R2} {op : Env → G → PV → PV → Option PV} (hs : OpS X.K r op) (σ : St) (H : Hp) (Q : VK) (h : tE X.mg X.K wx (eBin op fa fb) σ H Q) : tOp r (tB X.mg X.K wx fa) (tB X.mg X.K wx fb) σ H Q := by
  obtain ⟨R, W0, W, g, e, rep, q⟩ := h
  refine ⟨R, W0, W, g, e, rep, q.bind.imp fun a W1 g1 H1 l1 rep1 q1 v rv => ?_⟩
  refine ⟨R, W0, W1, g1, e, rep1, q1.bind.imp fun b W2 g2 H2 l2 rep2 q2 u ru => ?_⟩
  cases ho : op e g2 a b with
  | none => rw [ho] at q2; exact q2.elim
  | some z =>
    rw [ho] at q2
    exact hs R W0 W2 g2 e σ H2 a b z v u Q rep2 (rv.mono l2) ru ho fun W' H' w l rep' rw' => q2 W' H' l rep' w rw'
theorem tF_bin {r : R2} {op : Env → G → PV → PV → Option (List PV)} (hs : OpF X.K r op) (σ : St) (H : Hp) (Q : VK) (h : tF X.mg X.K wx (eBinF op fa fb) σ H Q) : tOp r (tB X.mg X.K wx fa) (tB X.mg X.K wx fb) σ H Q := by
  obtain ⟨R, W0, W, g, e, rep, q⟩ := h
  refine ⟨R, W0, W, g, e, rep, q.bind.imp fun a W1 g1 H1 l1 rep1 q1 v rv => ?_⟩
  refine ⟨R, W0, W1, g1, e, rep1, q1.bind.imp fun b W2 g2 H2 l2 rep2 q2 u ru => ?_⟩
  cases ho : op e g2 a b with
  | none => rw [ho] at q2; exact q2.elim
  | some z =>
    rw [ho] at q2
    exact hs R W0 W2 g2 e σ H2 a b z v u Q rep2 (rv.mono l2) ru ho fun W' H' a vs l rep' h1 h2 h3 h4 h5 => q2 W' H' l rep' a vs h1 h2 h3 h4 h5
theorem q_op {o : Operator} {r : R2} {op : Env → G → PV → PV → Option PV} (ho : OpR X (binaryOp o) r) (hs : OpS X.K r op) (ha : QB X wx x fa) (hb : QB X wx y fb) : QE X wx (.BinOp x o y pos) (eBin op fa fb) :=
  PE.weak (pe_op ho ha hb) (tE_bin hs)
theorem q_opF {o : Operator} {r : R2} {op : Env → G → PV → PV → Option (List PV)} (ho : OpR X (binaryOp o) r) (hs : OpF X.K r op) (ha : QB X wx x fa) (hb : QB X wx y fb) : QF X wx (.BinOp x o y pos) (eBinF op fa fb) :=
  PE.weak (pe_op ho ha hb) (tF_bin hs)
theorem q_cmp {o : CmpOp} {r : R2} {op : Env → G → PV → PV → Option PV} (ho : OpR X (compareOp o) r) (hs : OpS X.K r op) (ha : QB X wx x fa) (hb : QB X wx y fb) (hm : behindInMarks o y = false) : QE X wx (.Compare x [o] [y] pos) (eBin op fa fb) :=
  PE.weak (pe_cmpR ho ha hb hm) (tE_bin hs)
/-- a test of a bool value -/
def tOf (f : EE) : ET := fun e g => (f e g).bind fun p g' => match p with
  | .bl b => .ok b g'
  | _ => .bad
theorem tOf_ok {t : TE} (σ : St) (H : Hp) (Q : Bool → Hp → Prop) {f : EE} (ht : ∀ Q, tE X.mg X.K wx f σ H Q → t σ H Q) (h : tT X.mg X.K wx (tOf f) σ H Q) : tTest t σ H Q := by
  obtain ⟨R, W0, W, g, e, rep, q⟩ := h
  refine ht _ ⟨R, W0, W, g, e, rep, q.bind.imp fun p W1 g1 H1 l1 rep1 q1 v rv => ?_⟩
  cases p with
  | bl b => exact ⟨b, rv, q1 W1 H1 (Le.refl _) rep1⟩
  | _ => exact q1.elim
theorem q_cmpT {o : CmpOp} {r : R2} {op : Env → G → PV → PV → Option PV} (ho : OpR X (compareOp o) r) (hs : OpS X.K r op) (ha : QB X wx x fa) (hb : QB X wx y fb) (hm : behindInMarks o y = false) : QT X wx (.Compare x [o] [y] pos) (tOf (eBin op fa fb)) :=
  PT.weak (pt_cmpR ho ha hb hm) fun σ H Q h => tOf_ok σ H Q (fun Q => tE_bin hs σ H Q) h
/-- a chain x op y op' z -/
def eChain (op op' : Env → G → PV → PV → Option PV) (fa fb fc : EE) : EE := fun e g => (fa e g).bind fun a g1 => (fb e g1).bind fun b g2 => (optR (op e g2 a b) g2).bind fun k g3 => match k with
  | .bl true => (fc e g3).bind fun c g4 => optR (op' e g4 b c) g4
  | .bl false => .ok (.bl false) g3
  | _ => .bad
theorem tE_chain {r r' : R2} {op op' : Env → G → PV → PV → Option PV} {fc : EE} (hs : OpS X.K r op) (hs' : OpS X.K r' op') (σ : St) (H : Hp) (Q : VK) (h : tE X.mg X.K wx (eChain op op' fa fb fc) σ H Q) :
    tChain r r' (tB X.mg X.K wx fa) (tB X.mg X.K wx fb) (tB X.mg X.K wx fc) σ H Q := by
  obtain ⟨R, W0, W, g, e, rep, q⟩ := h
  refine ⟨R, W0, W, g, e, rep, q.bind.imp fun a W1 g1 H1 l1 rep1 q1 v rv => ?_⟩
  refine ⟨R, W0, W1, g1, e, rep1, q1.bind.imp fun b W2 g2 H2 l2 rep2 q2 u ru => ?_⟩
  cases ho : op e g2 a b with
  | none => rw [ho] at q2; exact q2.elim
  | some z =>
    rw [ho] at q2
    refine hs R W0 W2 g2 e σ H2 a b z v u _ rep2 (rv.mono l2) ru ho fun W3 H3 w l3 rep3 rw3 => ?_
    cases z with
    | bl k =>
      refine ⟨k, rw3, ?_⟩
      cases k with
      | false => exact iteF (q2 W3 H3 l3 rep3 _ rfl)
      | true =>
        refine iteT ⟨R, W0, W3, g2, e, rep3, (show Oc X.mg X.K R W0 e σ wx W3 ((fc e g2).bind fun c g4 => optR (op' e g4 b c) g4) (fun p W' _ H' => ∀ v, RepV X.K W' p v → Q v H') from Oc.mono l3 q2).bind.imp fun c W4 g4 H4 l4 rep4 q4 s rs => ?_⟩
        cases ho' : op' e g4 b c with
        | none => rw [ho'] at q4; exact q4.elim
        | some z' =>
          rw [ho'] at q4
          exact hs' R W0 W4 g4 e σ H4 b c z' u s Q rep4 ((ru.mono l3).mono l4) rs ho' fun W' H' w l rep' rw' => q4 W' H' l rep' w rw'
    | _ => exact q2.elim
theorem q_chain {o o' : CmpOp} {r r' : R2} {op op' : Env → G → PV → PV → Option PV} {fc : EE} {z : Expr} (ho : OpR X (compareOp o) r) (hs : OpS X.K r op) (ho' : OpR X (compareOp o') r') (hs' : OpS X.K r' op') (ha : QB X wx x fa) (hb : QB X wx y fb) (hc : QB X wx z fc)
    (hm : lastMarks [o, o'] [y, z] = false := by with_unfolding_all rfl) : QE X wx (.Compare x [o, o'] [y, z] pos) (eChain op op' fa fb fc) :=
  PE.weak (pe_chain ho ho' ha hb hc hm) (tE_chain hs hs')
theorem q_chainT {o o' : CmpOp} {r r' : R2} {op op' : Env → G → PV → PV → Option PV} {fc : EE} {z : Expr} (ho : OpR X (compareOp o) r) (hs : OpS X.K r op) (ho' : OpR X (compareOp o') r') (hs' : OpS X.K r' op') (ha : QB X wx x fa) (hb : QB X wx y fb) (hc : QB X wx z fc)
    (hm : lastMarks [o, o'] [y, z] = false := by with_unfolding_all rfl) : QT X wx (.Compare x [o, o'] [y, z] pos) (tOf (eChain op op' fa fb fc)) :=
  PT.weak (pt_chain ho ho' ha hb hc hm) fun σ H Q h => tOf_ok σ H Q (fun Q => tE_chain hs hs' σ H Q) h
/-- an expression that gives a bool, as a test -/
theorem q_tv {f : EE} (h : QB X wx x f) (he : ∀ whole, isTrue x X.env whole = (do let v ← whole; standAt x.pos; holding [v] (truthy v)) := by intro _; rfl) : QT X wx x (tOf f) :=
  PT.weak (pt_val h he) fun σ H Q ⟨R, W0, W, g, e, rep, q⟩ => by
    refine ⟨R, W0, W, g, e, rep, q.bind.imp fun p W1 g1 H1 l1 rep1 q1 v rv => ?_⟩
    cases p with
    | bl b => exact ⟨b, rv, q1 W1 H1 (Le.refl _) rep1⟩
    | _ => exact q1.elim

/-! ## and, or, not, if -/
def tAnd' (f k : ET) : ET := fun e g => (f e g).bind fun b g' => if b then k e g' else .ok false g'
def tOr' (f k : ET) : ET := fun e g => (f e g).bind fun b g' => if b then .ok true g' else k e g'
def tNot' (f : ET) : ET := fun e g => (f e g).bind fun b g' => .ok (!b) g'
variable {f k : ET} {rest : List Expr}
theorem q_and1 (h : QT X wx x f) : QW X wx (.BoolOp .And [x] pos) f := pw_and1 h
theorem q_or1 (h : QT X wx x f) : QW X wx (.BoolOp .Or [x] pos) f := pw_or1 h
theorem q_and (h : QT X wx x f) (h' : QW X wx (.BoolOp .And (y :: rest) pos) k) : QW X wx (.BoolOp .And (x :: y :: rest) pos) (tAnd' f k) := PW.weak (pw_and h h') fun σ H Q ⟨R, W0, W, g, e, rep, q⟩ => by
  refine ⟨R, W0, W, g, e, rep, q.bind.imp fun b W1 g1 H1 l1 rep1 q1 => ?_⟩
  cases b with
  | true => exact iteT ⟨R, W0, W1, g1, e, rep1, q1⟩
  | false => exact iteF (q1 W1 H1 (Le.refl _) rep1)
theorem q_or (h : QT X wx x f) (h' : QW X wx (.BoolOp .Or (y :: rest) pos) k) : QW X wx (.BoolOp .Or (x :: y :: rest) pos) (tOr' f k) := PW.weak (pw_or h h') fun σ H Q ⟨R, W0, W, g, e, rep, q⟩ => by
  refine ⟨R, W0, W, g, e, rep, q.bind.imp fun b W1 g1 H1 l1 rep1 q1 => ?_⟩
  cases b with
  | true => exact iteT (q1 W1 H1 (Le.refl _) rep1)
  | false => exact iteF ⟨R, W0, W1, g1, e, rep1, q1⟩
theorem QW.t (h : QW X wx x f) : QT X wx x f := PW.pt h
theorem q_not (h : QT X wx x f) : QT X wx (.UnaryOp .Not x pos) (tNot' f) := PT.weak (pt_not h) fun σ H Q ⟨R, W0, W, g, e, rep, q⟩ =>
  ⟨R, W0, W, g, e, rep, q.bind.imp fun b W1 g1 H1 l1 rep1 q1 => q1 W1 H1 (Le.refl _) rep1⟩
def eAndV (f k : EE) : EE := fun e g => (f e g).bind fun b g' => match b with
  | .bl true => k e g'
  | .bl false => .ok (.bl false) g'
  | _ => .bad
def eOrV (f k : EE) : EE := fun e g => (f e g).bind fun b g' => match b with
  | .bl true => .ok (.bl true) g'
  | .bl false => k e g'
  | _ => .bad
def eNotV (f : EE) : EE := fun e g => (f e g).bind fun b g' => match b with
  | .bl b => .ok (.bl (!b)) g'
  | _ => .bad
theorem q_oneV {op} {fa : EE} (h : QE X wx x fa) : QE X wx (.BoolOp op [x] pos) fa := pe_one h
theorem q_andV {fa fb : EE} (h : QE X wx x fa) (h' : QE X wx (.BoolOp .And (y :: rest) pos) fb) : QE X wx (.BoolOp .And (x :: y :: rest) pos) (eAndV fa fb) := PE.weak (pe_and h h') fun σ H Q ⟨R, W0, W, g, e, rep, q⟩ => by
  refine ⟨R, W0, W, g, e, rep, q.bind.imp fun b W1 g1 H1 l1 rep1 q1 v rv => ?_⟩
  cases b with
  | bl b =>
    refine ⟨b, rv, ?_⟩
    cases b with
    | true => exact iteT ⟨R, W0, W1, g1, e, rep1, q1⟩
    | false => exact iteF (q1 W1 H1 (Le.refl _) rep1 _ rfl)
  | _ => exact q1.elim
theorem q_orV {fa fb : EE} (h : QE X wx x fa) (h' : QE X wx (.BoolOp .Or (y :: rest) pos) fb) : QE X wx (.BoolOp .Or (x :: y :: rest) pos) (eOrV fa fb) := PE.weak (pe_or h h') fun σ H Q ⟨R, W0, W, g, e, rep, q⟩ => by
  refine ⟨R, W0, W, g, e, rep, q.bind.imp fun b W1 g1 H1 l1 rep1 q1 v rv => ?_⟩
  cases b with
  | bl b =>
    refine ⟨b, rv, ?_⟩
    cases b with
    | true => exact iteT (q1 W1 H1 (Le.refl _) rep1 _ rfl)
    | false => exact iteF ⟨R, W0, W1, g1, e, rep1, q1⟩
  | _ => exact q1.elim
theorem q_notV {fa : EE} (h : QE X wx x fa) : QE X wx (.UnaryOp .Not x pos) (eNotV fa) := PE.weak (pe_not h) fun σ H Q ⟨R, W0, W, g, e, rep, q⟩ => by
  refine ⟨R, W0, W, g, e, rep, q.bind.imp fun b W1 g1 H1 l1 rep1 q1 v rv => ?_⟩
  cases b with
  | bl b => exact ⟨b, rv, q1 W1 H1 (Le.refl _) rep1 _ rfl⟩
  | _ => exact q1.elim
def eIf (c : ET) (f k : EE) : EE := fun e g => (c e g).bind fun b g' => if b then f e g' else k e g'
theorem q_ifE {c : Expr} {fc : ET} {fa fb : EE} (hc : QT X wx c fc) (h : QE X wx x fa) (h' : QE X wx y fb) : QE X wx (.IfExp c x y pos) (eIf fc fa fb) := PE.weak (pe_ifExp hc h h') fun σ H Q ⟨R, W0, W, g, e, rep, q⟩ => by
  refine ⟨R, W0, W, g, e, rep, q.bind.imp fun b W1 g1 H1 l1 rep1 q1 => ?_⟩
  cases b with
  | true => exact iteT ⟨R, W0, W1, g1, e, rep1, q1⟩
  | false => exact iteF ⟨R, W0, W1, g1, e, rep1, q1⟩
/-- a one-place operation -/
def UnS (K : PySem.W.Frag) (r : V → Hp → VK → Prop) (op : Env → G → PV → Option PV) : Prop :=
  ∀ (R : Hp) (W0 W : Wd) (g : G) (e : Env) (σ : St) (H : Hp) (x z : PV) (v : V) (Q : VK), Rep K R W0 W g e σ H → RepT K W e σ x v → op e g x = some z →
    (∀ W' H' w, Le W W' → Rep K R W0 W' g e σ H' → RepV K W' z w → Q w H') → r v H Q
def eUn (op : Env → G → PV → Option PV) (fa : EE) : EE := fun e g => (fa e g).bind fun a g1 => optR (op e g1 a) g1
theorem q_un {o : UnaryOp} {r : V → Hp → VK → Prop} {op : Env → G → PV → Option PV} (ho : UnR X (unaryOp o) r) (hs : UnS X.K r op) (ha : QB X wx x fa) : QE X wx (.UnaryOp o x pos) (eUn op fa) := PE.weak (pe_un ho ha) fun σ H Q ⟨R, W0, W, g, e, rep, q⟩ => by
  refine ⟨R, W0, W, g, e, rep, q.bind.imp fun a W1 g1 H1 l1 rep1 q1 v rv => ?_⟩
  cases ho : op e g1 a with
  | none => rw [ho] at q1; exact q1.elim
  | some z =>
    rw [ho] at q1
    exact hs R W0 W1 g1 e σ H1 a z v Q rep1 rv ho fun W' H' w l rep' rw' => q1 W' H' l rep' w rw'

/-! ## argument lists, displays -/
def aNil : EL := fun _ g => .ok [] g
def aCons (f : EE) (k : EL) : EL := fun e g => (f e g).bind fun p g1 => (k e g1).bind fun ps g2 => .ok (p :: ps) g2
variable {es : List Expr} {fk : EL}
theorem qa_nil : QA X wx [] aNil := PA.weak pa_nil fun σ H Q ⟨R, W0, W, g, e, rep, q⟩ => q W H (Le.refl _) rep [] rfl
theorem qa_cons (h : QE X wx x fa) (h' : QA X wx es fk) (hs : starEach (x :: es) X.env = (false, eval x X.env) :: starEach es X.env := by rfl) : QA X wx (x :: es) (aCons fa fk) := PA.weak (pa_cons h h' hs) fun σ H Q ⟨R, W0, W, g, e, rep, q⟩ => by
  refine ⟨R, W0, W, g, e, rep, q.bind.imp fun a W1 g1 H1 l1 rep1 q1 v rv => ?_⟩
  refine ⟨R, W0, W1, g1, e, rep1, q1.bind.imp fun ps W2 g2 H2 l2 rep2 q2 vs rvs => ?_⟩
  exact q2 W2 H2 (Le.refl _) rep2 _ ⟨v, vs, rfl, RepV.mono l2 _ _ rv, rvs⟩
theorem qb_nil : QAB X wx [] aNil := PA.weak pa_nil fun σ H Q ⟨R, W0, W, g, e, rep, q⟩ => q W H (Le.refl _) rep [] rfl
theorem qb_cons (h : QB X wx x fa) (h' : QAB X wx es fk) (hs : starEach (x :: es) X.env = (false, eval x X.env) :: starEach es X.env := by rfl) : QAB X wx (x :: es) (aCons fa fk) := PA.weak (pa_cons h h' hs) fun σ H Q ⟨R, W0, W, g, e, rep, q⟩ => by
  refine ⟨R, W0, W, g, e, rep, q.bind.imp fun a W1 g1 H1 l1 rep1 q1 v rv => ?_⟩
  refine ⟨R, W0, W1, g1, e, rep1, q1.bind.imp fun ps W2 g2 H2 l2 rep2 q2 vs rvs => ?_⟩
  exact q2 W2 H2 (Le.refl _) rep2 _ ⟨v, vs, rfl, rv.mono l2, rvs⟩
def fits (n : Nat) : Bool := Nat.ble n 16777216
theorem fits_le {n : Nat} (h : fits n = true) : n ≤ sizeLine := by rw [sizeLine_eq]; exact Nat.le_of_ble_eq_true h
def eTup (f : EL) : EE := fun e g => (f e g).bind fun ps g' => if fits ps.length then .ok (.tup ps) g' else .bad
theorem q_tup {x1} (h : QA X wx es fk) : QE X wx (.Tuple es x1 pos) (eTup fk) := PE.weak (pe_tup h) fun σ H Q ⟨R, W0, W, g, e, rep, q⟩ => by
  refine ⟨R, W0, W, g, e, rep, q.bind.imp fun ps W1 g1 H1 l1 rep1 q1 vs rv => ?_⟩
  cases hf : fits ps.length with
  | false => rw [hf] at q1; exact q1.elim
  | true =>
    rw [hf] at q1
    have hl : vs.length ≤ sizeLine := by rw [rv.length]; exact fits_le hf
    refine ⟨hl, fun p hp => ?_⟩
    obtain ⟨r2, l2⟩ := rep1.newFz (k := false) hp hl
    exact q1 _ _ l2 r2 _ ⟨p, vs, rfl, .inl putW_same, RepVs.mono l2 _ _ rv⟩
/-- a fresh list laid -/
theorem Rep.newLst {K : PySem.W.Frag} {R : Hp} {W0 W : Wd} {g : G} {e : Env} {σ : St} {H : Hp} (r : Rep K R W0 W g e σ H) {p : Addr} {u : HO} (hp : H p = none) : Rep K R W0 W g e σ (upd H p u) ∧ W p = none ∧ R p = none := by
  obtain ⟨hW, hR⟩ := r.toRepG.fresh hp
  have ne : ∀ {a k}, W a = some k → a ≠ p := fun h z => by subst z; rw [hW] at h; cases h
  refine ⟨⟨⟨fun a o h => ?_, r.base, fun a k h => ?_, fun a k vs h => ?_, fun a vs h => ?_, fun a n h => ?_, r.uq, r.ow⟩, r.len, fun i s h => ?_⟩, hW, hR⟩
  · rw [upd_ne (fun z => by subst z; rw [hR] at h; cases h)]; exact r.prot a o h
  · obtain ⟨o, q⟩ := r.dom a k h
    exact ⟨o, by rw [upd_ne (ne h)]; exact q⟩
  · obtain ⟨h1, h2⟩ := r.fz a k vs h
    exact ⟨by rw [upd_ne (ne h)]; exact h1, h2⟩
  · obtain ⟨h1, h2⟩ := r.rd a vs h
    exact ⟨rd_mono (fun u q => by rw [upd_ne (ne h)]; exact q) h1, h2⟩
  · obtain ⟨h1, o, h2, h3⟩ := r.gl a n h
    exact ⟨h1, o, h2, RepO.mono (Le.refl _) (fun u q => by rw [upd_ne (ne h)]; exact q) h3⟩
  · exact (r.slot i s h).mono (Le.refl _) (fun _ q => q) (fun a u q w => by rw [upd_ne (ne q)]; exact w)
def eDisp (f : EL) : EL := fun e g => (f e g).bind fun ps g' => if fits ps.length then .ok ps g' else .bad
theorem q_lst (h : QA X wx es fk) : QF X wx (.List es pos) (eDisp fk) := PE.weak (pe_lst h) fun σ H Q ⟨R, W0, W, g, e, rep, q⟩ => by
  refine ⟨R, W0, W, g, e, rep, q.bind.imp fun ps W1 g1 H1 l1 rep1 q1 vs rv => ?_⟩
  cases hf : fits ps.length with
  | false => rw [hf] at q1; exact q1.elim
  | true =>
    rw [hf] at q1
    have hl : vs.length ≤ sizeLine := by rw [rv.length]; exact fits_le hf
    refine ⟨hl, fun p hp => ?_⟩
    obtain ⟨r2, hW, hR⟩ := rep1.newLst (u := .lst vs) hp
    exact q1 _ _ (Le.refl _) r2 _ _ hW hR upd_same rv hl

/-! ## built-in calls by values -/
def CallS (K : PySem.W.Frag) (r : List V → Hp → VK → Prop) (op : Env → G → List PV → Option PV) : Prop :=
  ∀ (R : Hp) (W0 W : Wd) (g : G) (e : Env) (σ : St) (H : Hp) (xs : List PV) (z : PV) (vs : List V) (Q : VK), Rep K R W0 W g e σ H → RepTs K W e σ xs vs → op e g xs = some z →
    (∀ W' H' w, Le W W' → Rep K R W0 W' g e σ H' → RepV K W' z w → Q w H') → r vs H Q
def CallF (K : PySem.W.Frag) (r : List V → Hp → VK → Prop) (op : Env → G → List PV → Option (List PV)) : Prop :=
  ∀ (R : Hp) (W0 W : Wd) (g : G) (e : Env) (σ : St) (H : Hp) (xs : List PV) (z : List PV) (vs : List V) (Q : VK), Rep K R W0 W g e σ H → RepTs K W e σ xs vs → op e g xs = some z →
    (∀ W' H' a vs, Le W W' → Rep K R W0 W' g e σ H' → W' a = none → R a = none → H' a = some (.lst vs) → RepVs K W' z vs → vs.length ≤ sizeLine → Q (.ref a) H') → r vs H Q
def eCallB (op : Env → G → List PV → Option PV) (f : EL) : EE := fun e g => (f e g).bind fun ps g1 => optR (op e g1 ps) g1
def eCallF (op : Env → G → List PV → Option (List PV)) (f : EL) : EL := fun e g => (f e g).bind fun ps g1 => optR (op e g1 ps) g1
variable {n : Str} {p : Pos} {id T : String} {r : List V → Hp → VK → Prop}
theorem tE_callB {op : Env → G → List PV → Option PV} (hs : CallS X.K r op) (σ : St) (H : Hp) (Q : VK) (h : tE X.mg X.K wx (eCallB op fk) σ H Q) : tCB r (tAB X.mg X.K wx fk) σ H Q := by
  obtain ⟨R, W0, W, g, e, rep, q⟩ := h
  refine ⟨R, W0, W, g, e, rep, q.bind.imp fun ps W1 g1 H1 l1 rep1 q1 vs rv => ?_⟩
  cases ho : op e g1 ps with
  | none => rw [ho] at q1; exact q1.elim
  | some z =>
    rw [ho] at q1
    exact hs R W0 W1 g1 e σ H1 ps z vs Q rep1 rv ho fun W' H' w l rep' rw' => q1 W' H' l rep' w rw'
theorem tF_callB {op : Env → G → List PV → Option (List PV)} (hs : CallF X.K r op) (σ : St) (H : Hp) (Q : VK) (h : tF X.mg X.K wx (eCallF op fk) σ H Q) : tCB r (tAB X.mg X.K wx fk) σ H Q := by
  obtain ⟨R, W0, W, g, e, rep, q⟩ := h
  refine ⟨R, W0, W, g, e, rep, q.bind.imp fun ps W1 g1 H1 l1 rep1 q1 vs rv => ?_⟩
  cases ho : op e g1 ps with
  | none => rw [ho] at q1; exact q1.elim
  | some z =>
    rw [ho] at q1
    exact hs R W0 W1 g1 e σ H1 ps z vs Q rep1 rv ho fun W' H' a us l rep' h1 h2 h3 h4 h5 => q1 W' H' l rep' a us h1 h2 h3 h4 h5
theorem q_callB {op : Env → G → List PV → Option PV} (hc : CallR X (.builtin id) r) (hs : CallS X.K r op) (hm : X.mg n = none) (hv : bootBuiltins n = some (.builtin id)) (ha : QAB X wx (x :: es) fk) (hg : Gl X n := by rfl) (hn : n ≠ "__name__" := by decide) (hdb : (n == ("__debug__" : Str)) = false := by decide)
    (he : starEach (x :: es) X.env = (false, eval x X.env) :: starEach es X.env := by rfl) (hpl : (backTo pos (starEach es X.env)).any (·.1) = false := by rfl) : QE X wx (.Call (.Name n p) (x :: es) [] pos) (eCallB op fk) :=
  PE.weak (pe_callB hc hg hm hv ha hn hdb he hpl) (tE_callB hs)
theorem q_callTy {op : Env → G → List PV → Option PV} (hc : CallR X (.type T) r) (hs : CallS X.K r op) (hm : X.mg n = none) (hv : bootBuiltins n = some (.type T)) (ha : QAB X wx (x :: es) fk) (hg : Gl X n := by rfl) (hn : n ≠ "__name__" := by decide) (hdb : (n == ("__debug__" : Str)) = false := by decide)
    (he : starEach (x :: es) X.env = (false, eval x X.env) :: starEach es X.env := by rfl) (hpl : (backTo pos (starEach es X.env)).any (·.1) = false := by rfl) : QE X wx (.Call (.Name n p) (x :: es) [] pos) (eCallB op fk) :=
  PE.weak (pe_callTy hc hg hm hv ha hn hdb he hpl) (tE_callB hs)
theorem q_callBF {op : Env → G → List PV → Option (List PV)} (hc : CallR X (.builtin id) r) (hs : CallF X.K r op) (hm : X.mg n = none) (hv : bootBuiltins n = some (.builtin id)) (ha : QAB X wx (x :: es) fk) (hg : Gl X n := by rfl) (hn : n ≠ "__name__" := by decide) (hdb : (n == ("__debug__" : Str)) = false := by decide)
    (he : starEach (x :: es) X.env = (false, eval x X.env) :: starEach es X.env := by rfl) (hpl : (backTo pos (starEach es X.env)).any (·.1) = false := by rfl) : QF X wx (.Call (.Name n p) (x :: es) [] pos) (eCallF op fk) :=
  PE.weak (pe_callB hc hg hm hv ha hn hdb he hpl) (tF_callB hs)
theorem q_callTyF {op : Env → G → List PV → Option (List PV)} (hc : CallR X (.type T) r) (hs : CallF X.K r op) (hm : X.mg n = none) (hv : bootBuiltins n = some (.type T)) (ha : QAB X wx (x :: es) fk) (hg : Gl X n := by rfl) (hn : n ≠ "__name__" := by decide) (hdb : (n == ("__debug__" : Str)) = false := by decide)
    (he : starEach (x :: es) X.env = (false, eval x X.env) :: starEach es X.env := by rfl) (hpl : (backTo pos (starEach es X.env)).any (·.1) = false := by rfl) : QF X wx (.Call (.Name n p) (x :: es) [] pos) (eCallF op fk) :=
  PE.weak (pe_callTy hc hg hm hv ha hn hdb he hpl) (tF_callB hs)

/-! ## subscripts -/
theorem q_ix {op : Env → G → PV → PV → Option PV} {r : R2} (hr : IxR X r) (hs : OpS X.K r op) (hp : PlainIx y) (ha : QB X wx x fa) (hb : QB X wx y fb) : QE X wx (.Subscript x y pos) (eBin op fa fb) :=
  PE.weak (pe_ix hr ha hb hp) (tE_bin hs)
end
end Q

namespace Q
open PySem L2

/-! ## targets -/
inductive Pat where
  | nm (i : Nat) | tp (ps : List Pat)
mutual
def Pat.put : Pat → PV → Env → Option Env
  | .nm i, p, e => some (e.set i (.val p))
  | .tp ps, .tup xs, e => Pat.puts ps xs e
  | .tp _, _, _ => none
def Pat.puts : List Pat → List PV → Env → Option Env
  | [], [], e => some e
  | p :: ps, x :: xs, e => (Pat.put p x e).bind fun e' => Pat.puts ps xs e'
  | _, _, _ => none
end
mutual
def Pat.slots : Pat → List Nat
  | .nm i => [i]
  | .tp ps => Pat.slotss ps
def Pat.slotss : List Pat → List Nat
  | [] => []
  | p :: ps => Pat.slots p ++ Pat.slotss ps
end
/-- outside the slots is nothing changed -/
def Outs (is : List Nat) (σ σ' : St) : Prop := ∀ vs : List Nat, (∀ i ∈ is, i ∈ vs) → wipe σ' vs = wipe σ vs
theorem wipe_set (σ : St) (i : Nat) (o : Option V) : ∀ vs : List Nat, wipe (σ.set i o) vs = if i ∈ vs then wipe σ vs else (wipe σ vs).set i o
  | [] => by simp [wipe]
  | v :: vs => by
    unfold wipe
    rw [wipe_set σ i o vs]
    by_cases h : i ∈ vs
    · rw [if_pos h, if_pos (List.mem_cons_of_mem _ h)]
    · rw [if_neg h]
      by_cases z : i = v
      · subst z; rw [if_pos (by simp), List.set_set]
      · rw [if_neg (by simp [h, z]), List.set_comm _ _ z]
theorem Outs.one {σ : St} {i : Nat} {o : Option V} : Outs [i] σ (σ.set i o) := fun vs h => by rw [wipe_set, if_pos (h i (by simp))]
theorem Outs.refl {σ : St} {is : List Nat} : Outs is σ σ := fun _ _ => rfl
theorem Outs.app {σ σ1 σ2 : St} {is js : List Nat} (h : Outs is σ σ1) (k : Outs js σ1 σ2) : Outs (is ++ js) σ σ2 := fun vs q => by
  rw [k vs (fun i hi => q i (List.mem_append_right _ hi)), h vs (fun i hi => q i (List.mem_append_left _ hi))]

def tG (K : PySem.W.Frag) (p : Pat) : TG := fun v σ H Q => ∃ R W0 W g e x e', Rep K R W0 W g e σ H ∧ RepV K W x v ∧ p.put x e = some e' ∧ ∀ σ', Rep K R W0 W g e' σ' H → Outs p.slots σ σ' → Q σ' H
def tGs (K : PySem.W.Frag) (ps : List Pat) : TGs := fun vs σ H Q => ∃ R W0 W g e xs e', Rep K R W0 W g e σ H ∧ RepVs K W xs vs ∧ Pat.puts ps xs e = some e' ∧ ∀ σ', Rep K R W0 W g e' σ' H → Outs (Pat.slotss ps) σ σ' → Q σ' H
def QG (X : Cx) (t : Expr) (p : Pat) : Prop := PG X t (tG X.K p)
def QGs (X : Cx) (ts : List Expr) (ps : List Pat) : Prop := PGs X ts (tGs X.K ps)

theorem InW.sq {K : PySem.W.Frag} {R : Hp} {W0 W : Wd} {g : G} {H : Hp} (r : RepG K R W0 W g H) {k : Bool} {a : Addr} {vs : List V} (h : InW K W k a vs) : SqX K H k a vs ∧ vs.length ≤ sizeLine := by
  rcases h with h | ⟨h1, h2⟩ | ⟨rfl, h⟩
  · obtain ⟨h1, h2⟩ := r.fz a k vs h
    cases k with
    | true => exact ⟨SqL.of h1, h2⟩
    | false => exact ⟨SqT.of h1, h2⟩
  · exact ⟨h1 H, h2⟩
  · obtain ⟨h1, h2⟩ := r.rd a vs h
    exact ⟨.inl h1, h2⟩

section
variable {X : Cx} {pos : Pos}
theorem qg_nm (i : Nat) {n : Str} (hN : X.N.Nodup) (hi : X.N[i]? = some n := by rfl) (hx : Loc X.env.scope n := by first | exact Or.inl rfl | exact Or.inr rfl) (hf : X.fn n = true ∨ X.env.scope.names.lookup n = some .local := by first | exact .inl rfl | exact .inr rfl) : QG X (.Name n pos) (.nm i) := by
  refine ⟨fun pins s σ H v u Q I r h => ?_⟩
  obtain ⟨R, W0, W, g, e, x, e', rep, rv, he, k⟩ := h
  cases he
  exact (pg_name hN hi hx hf).run pins s σ H v u Q I r (k _ (rep.store rv) Outs.one)
theorem qg_nil : QGs X [] [] := by
  refine ⟨fun pins s σ H vs us Q I r h => ?_⟩
  obtain ⟨R, W0, W, g, e, xs, e', rep, rv, he, k⟩ := h
  cases xs with
  | nil => cases he; exact pgs_nil.run pins s σ H vs us Q I r ⟨rv, k σ rep Outs.refl⟩
  | cons x xs => cases he
theorem qg_cons {t : Expr} {ts : List Expr} {p : Pat} {ps : List Pat} (h1 : QG X t p) (h2 : QGs X ts ps) (hs : (assignEach (t :: ts) X.env).map (·.2) = assign t X.env :: (assignEach ts X.env).map (·.2) := by rfl) : QGs X (t :: ts) (p :: ps) := by
  refine ⟨fun pins s σ H vs us Q I r h => (pgs_cons h1 h2 hs).run pins s σ H vs us Q I r ?_⟩
  obtain ⟨R, W0, W, g, e, xs, e', rep, rv, he, k⟩ := h
  cases xs with
  | nil => cases he
  | cons x xs =>
    obtain ⟨w, ws, rfl, rw', rws⟩ := rv
    have he2 : (Pat.put p x e).bind (fun e' => Pat.puts ps xs e') = some e' := he
    cases hp : Pat.put p x e with
    | none => rw [hp] at he2; cases he2
    | some e1 =>
      rw [hp] at he2
      refine ⟨w, ws, rfl, R, W0, W, g, e, x, e1, rep, rw', hp, fun σ1 rep1 o1 => ?_⟩
      exact ⟨R, W0, W, g, e1, xs, e', rep1, rws, he2, fun σ2 rep2 o2 => k σ2 rep2 (o1.app o2)⟩
theorem qg_tup {es : List Expr} {kk : Nat} {ps : List Pat} (hc : X.calm = true) (h : QGs X es ps) (hn : (assignEach es X.env).length = ps.length := by rfl) (hst : (assignEach es X.env).findIdx? (·.1) = none := by rfl) : QG X (.Tuple es kk pos) (.tp ps) := by
  refine ⟨fun pins s σ H v u Q I r q => (pg_tup hc h hn hst).run pins s σ H v u Q I r ?_⟩
  obtain ⟨R, W0, W, g, e, x, e', rep, rv, he, k⟩ := q
  cases x with
  | tup xs =>
    obtain ⟨a, vs, rfl, hw, hr⟩ := rv
    have hl : ∀ (ps : List Pat) (xs : List PV) (e : Env), (∃ e', Pat.puts ps xs e = some e') → xs.length = ps.length := by
      intro ps
      induction ps with
      | nil => intro xs e ⟨e', h⟩; cases xs with
        | nil => rfl
        | cons x xs => cases h
      | cons p ps ih => intro xs e ⟨e', h⟩; cases xs with
        | nil => cases h
        | cons x xs =>
          have h : (Pat.put p x e).bind (fun e' => Pat.puts ps xs e') = some e' := h
          cases hp : Pat.put p x e with
          | none => rw [hp] at h; cases h
          | some e1 => rw [hp] at h; simp [ih xs e1 ⟨e', h⟩]
    refine ⟨a, vs, rfl, (hw.sq rep.toRepG).1, ?_, R, W0, W, g, e, xs, e', rep, hr, he, k⟩
    rw [hr.length]; exact hl ps xs e ⟨e', he⟩
  | _ => cases he
end

/-! ## what is walked -/
/-- the items of an iterator, as long as the world grows -/
structure ItOk (K : PySem.W.Frag) (W : Wd) (items : List PV) (J : It) : Prop where
  len : items.length ≤ sizeLine
  go : ∀ (R : Hp) (W0 W1 : Wd) (g : G) (e : Env) (σ : St) (H : Hp) (i : Nat), Le W W1 → Rep K R W0 W1 g e σ H → i < items.length → J.go i H
  stop : ∀ (R : Hp) (W0 W1 : Wd) (g : G) (e : Env) (σ : St) (H : Hp), Le W W1 → Rep K R W0 W1 g e σ H → J.stop items.length H
  yld : ∀ (R : Hp) (W0 W1 : Wd) (g : G) (e : Env) (σ : St) (H : Hp) (i : Nat) (x : V) (H' : Hp), Le W W1 → Rep K R W0 W1 g e σ H → i < items.length → J.yld i H x H' →
    ∃ W2 p, items[i]? = some p ∧ Le W1 W2 ∧ Rep K R W0 W2 g e σ H' ∧ RepV K W2 p x
def tI (mg : MG) (K : PySem.W.Frag) (wx : WX) (f : EL) : TI := fun σ H Rr => ∃ R W0 W g e, Rep K R W0 W g e σ H ∧
  Oc mg K R W0 e σ wx W (f e g) (fun items W' _ H' => ∀ J, ItOk K W' items J → Rr J H')
def QI (X : Cx) (wx : WX) (tg x : Expr) (f : EL) : Prop := PI X tg x (tI X.mg X.K wx f)
theorem PI.weak {X : Cx} {tg x : Expr} {t t' : TI} (h : PI X tg x t) (k : ∀ σ H Q, t' σ H Q → t σ H Q) : PI X tg x t' := ⟨fun pins s σ H Q I q => h.run pins s σ H Q I (k σ H Q q)⟩

section
variable {X : Cx} {tg : Expr} {wx : WX} {pos : Pos}
/-- a list or a tuple -/
def seqJ (K : PySem.W.Frag) : Bool → Addr → It
  | true, a => Itl K a
  | false, a => Itt K a
def iSeq (K : PySem.W.Frag) (tl : TE) : TI := fun σ H Rr => tl σ H fun x H1 => ∃ a k, x = .ref a ∧ (∃ xs, SqX K H1 k a xs) ∧ Rr (seqJ K k a) H1
theorem pi_seq {l : Expr} {tl : TE} (hl : PE X l tl) : PI X tg l (iSeq X.K tl) := by
  refine ⟨fun pins s σ H Rr I h => thn (hl.run pins s σ H _ I h) ?_⟩
  rintro v s1 ⟨x, H1, I1, r1, a, k, rfl, ⟨xs, hq⟩, q⟩
  cases r1
  have fre : ∀ b ∈ [s1.heap.objs.size], FpOk X pins H1 b := fun b hb => by
    rw [List.mem_singleton.mp hb]
    exact I1.fpOk (Nat.le_refl _) (I1.hok.fresh (Nat.le_refl _))
  cases k with
  | true =>
    obtain ⟨its, rv, p, hz⟩ := I1.list hq
    exact wpAny_pyIter_list p.isList ⟨_, _, _, _, H1, rfl, I1.kept (t' := s1.toks) (fun b o e => Heap.get?_push_of_some _ e), turn_list a _, ⟨_, Heap.get?_push_size _ rfl, rfl, rfl⟩, fre, q⟩
  | false =>
    obtain ⟨its, rv, p, hz⟩ := I1.tuple hq
    exact wpAny_pyIter_tuple (show s1.heap.IsTuple a its.toArray from p) ⟨_, _, _, _, H1, rfl, I1.kept (t' := s1.toks) (fun b o e => Heap.get?_push_of_some _ e), turn_tuple a _, ⟨_, Heap.get?_push_size _ rfl, rfl, rfl⟩, fre, q⟩
/-- a sequence that never changes -/
def frSeq : PV → Option (List PV)
  | .tup xs => some xs
  | .lst xs => some xs
  | .scr xs => some xs
  | _ => none
/-- .. at an address -/
def SqW (K : PySem.W.Frag) (W : Wd) (k : Bool) (a : Addr) (xs : List PV) : Prop := ∃ vs, InW K W k a vs ∧ RepVs K W xs vs
theorem SqW.mono {K : PySem.W.Frag} {W W' : Wd} (l : Le W W') {k : Bool} {a : Addr} {xs : List PV} (h : SqW K W k a xs) : SqW K W' k a xs := by
  obtain ⟨vs, h1, h2⟩ := h
  exact ⟨vs, l.inW h1, RepVs.mono l _ _ h2⟩
theorem frSeq_rep {K : PySem.W.Frag} {W : Wd} {e : Env} {σ : St} {p : PV} {v : V} {xs : List PV} (h : frSeq p = some xs) (r : RepT K W e σ p v) : ∃ a k, v = .ref a ∧ SqW K W k a xs := by
  cases p with
  | tup ys =>
    cases h
    obtain ⟨a, vs, h1, h2, h3⟩ := r
    exact ⟨a, false, h1, vs, h2, h3⟩
  | lst ys =>
    cases h
    obtain ⟨a, vs, h1, h2, h3⟩ := r
    exact ⟨a, true, h1, vs, .inl h2, h3⟩
  | scr ys =>
    cases h
    obtain ⟨a, vs, h1, h2, h3⟩ := r
    exact ⟨a, true, h1, vs, h2, h3⟩
  | _ => cases h
theorem itOk_seq {K : PySem.W.Frag} {R0 : Hp} {W00 W : Wd} {g0 : G} {e0 : Env} {σ0 : St} {H0 : Hp} (rep0 : Rep K R0 W00 W g0 e0 σ0 H0) {k : Bool} {a : Addr} {xs : List PV} (h : SqW K W k a xs) : ItOk K W xs (seqJ K k a) := by
  refine ⟨?_, fun R W0 W1 g e σ H i l r hi => ?_, fun R W0 W1 g e σ H l r => ?_, fun R W0 W1 g e σ H i x H' l r hi y => ?_⟩
  · obtain ⟨vs, h1, h2⟩ := h
    rw [← h2.length]; exact (h1.sq rep0.toRepG).2
  · obtain ⟨vs, h1, h2⟩ := h.mono l
    have hl := h2.length
    obtain ⟨v, hv, _⟩ := h2.get (List.getElem?_eq_getElem hi)
    have q := (h1.sq r.toRepG).1
    cases k with
    | true => exact ⟨vs, v, q, hv⟩
    | false => exact ⟨vs, v, q, hv⟩
  · obtain ⟨vs, h1, h2⟩ := h.mono l
    have hl := h2.length
    have q := (h1.sq r.toRepG).1
    cases k with
    | true => exact ⟨vs, q, by omega⟩
    | false => exact ⟨vs, q, by omega⟩
  · obtain ⟨vs, h1, h2⟩ := h.mono l
    obtain ⟨v, hv, hr⟩ := h2.get (List.getElem?_eq_getElem hi)
    have q := (h1.sq r.toRepG).1
    cases k with
    | true =>
      obtain ⟨rfl, y⟩ := y
      have z := y vs q
      rw [hv] at z; cases z
      exact ⟨W1, xs[i], List.getElem?_eq_getElem hi, Le.refl _, r, hr⟩
    | false =>
      obtain ⟨rfl, y⟩ := y
      have z := y vs q
      rw [hv] at z; cases z
      exact ⟨W1, xs[i], List.getElem?_eq_getElem hi, Le.refl _, r, hr⟩
def iSq (f : EE) : EL := fun e g => (f e g).bind fun p g1 => optR (frSeq p) g1
theorem q_isq {l : Expr} {f : EE} (h : QB X wx l f) : QI X wx tg l (iSq f) := PI.weak (pi_seq h) fun σ H Rr ⟨R, W0, W, g, e, rep, q⟩ => by
  refine ⟨R, W0, W, g, e, rep, q.bind.imp fun p W1 g1 H1 l1 rep1 q1 v rv => ?_⟩
  cases hf : frSeq p with
  | none => rw [hf] at q1; exact q1.elim
  | some xs =>
    rw [hf] at q1
    obtain ⟨a, k, rfl, hw⟩ := frSeq_rep hf rv
    obtain ⟨vs, h1, h2⟩ := id hw
    exact ⟨a, k, rfl, ⟨vs, (h1.sq rep1.toRepG).1⟩, q1 W1 H1 (Le.refl _) rep1 _ (itOk_seq rep1 hw)⟩
/-- a range -/
def rangeL (lo hi : Int) : List PV := (List.range (hi - lo).toNat).map fun k => .int (lo + (k : Nat))
def iRange1 (op : EE) : EL := fun e g => (op e g).bind fun p g1 => match p with
  | .int j => if decide (-4611686018427387904 ≤ j) && decide (j ≤ 16777216) then .ok (rangeL 0 j) g1 else .bad
  | _ => .bad
def iRange2 (op op' : EE) : EL := fun e g => (op e g).bind fun p g1 => (op' e g1).bind fun p' g2 => match p, p' with
  | .int i, .int j => if decide (-4611686018427387904 ≤ i) && decide (i < 4611686018427387904) && decide (-4611686018427387904 ≤ j) && decide (j < 4611686018427387904) && decide (j - i ≤ 16777216) then .ok (rangeL i j) g2 else .bad
  | _, _ => .bad
theorem rangeL_get (lo hi : Int) (k : Nat) (h : k < (hi - lo).toNat) : (rangeL lo hi)[k]? = some (.int (lo + (k : Nat))) := by
  unfold rangeL
  rw [List.getElem?_map, List.getElem?_range h]; rfl
theorem rangeL_len (lo hi : Int) : (rangeL lo hi).length = (hi - lo).toNat := by unfold rangeL; rw [List.length_map, List.length_range]
theorem itOk_range {K : PySem.W.Frag} {W : Wd} {lo hi : Int} (h : hi - lo ≤ 16777216) : ItOk K W (rangeL lo hi) (Itr lo (hi - lo).toNat) := by
  refine ⟨by rw [rangeL_len, sizeLine_eq]; omega, fun R W0 W1 g e σ H i l r hi' => by rw [rangeL_len] at hi'; exact hi', fun R W0 W1 g e σ H l r => by rw [rangeL_len]; exact Nat.le_refl _, fun R W0 W1 g e σ H i x H' l r hi' y => ?_⟩
  rw [rangeL_len] at hi'
  obtain ⟨rfl, rfl⟩ := y
  exact ⟨W1, _, rangeL_get lo hi i hi', Le.refl _, r, rfl⟩
theorem q_range1 {a : Expr} {f : EE} {p : Pos} (hm : X.mg "range" = none) (ha : QE X wx a f) (hg : Gl X "range" := by rfl) (hs : starEach [a] X.env = [(false, eval a X.env)] := by rfl) : QI X wx tg (.Call (.Name "range" p) [a] [] pos) (iRange1 f) :=
  PI.weak (pi_range1 hg hm (qa_cons (wx := wx) ha qa_nil (by rw [hs]; rfl)) hs) fun σ H Rr ⟨R, W0, W, g, e, rep, q⟩ => by
    refine ⟨R, W0, W, g, e, rep, ?_⟩
    have z : Oc X.mg X.K R W0 e σ wx W (f e g) _ := q.bind
    unfold aCons aNil
    cases hf : f e g with
    | bad => rw [hf] at z; exact z.elim
    | exc x g1 => rw [hf] at z; exact z
    | ok v g1 =>
      rw [hf] at z
      intro W1 H1 l1 rep1 vs rvs
      have q1 := z W1 H1 l1 rep1
      obtain ⟨w, ws, rfl, rw', rws⟩ := rvs
      obtain rfl : ws = [] := rws
      cases v with
      | int j =>
        simp only at q1
        split at q1
        · rename_i hc
          simp only [Bool.and_eq_true, decide_eq_true_eq] at hc
          obtain rfl : w = .int j := rw'
          refine ⟨j, rfl, by omega, by omega, ?_⟩
          have e1 : j.toNat = (j - 0).toNat := by omega
          rw [e1]
          exact q1 W1 H1 (Le.refl _) rep1 _ (itOk_range (by omega))
        · exact q1.elim
      | _ => exact q1.elim
theorem q_range2 {a b : Expr} {f f' : EE} {p : Pos} (hm : X.mg "range" = none) (ha : QE X wx a f) (hb : QE X wx b f') (hg : Gl X "range" := by rfl) (hs : starEach [a, b] X.env = [(false, eval a X.env), (false, eval b X.env)] := by rfl) (hs2 : starEach [b] X.env = [(false, eval b X.env)] := by rfl) :
    QI X wx tg (.Call (.Name "range" p) [a, b] [] pos) (iRange2 f f') :=
  PI.weak (pi_range2 hg hm (pa_cons ha (pa_cons hb pa_nil (by rw [hs2]; rfl)) (by rw [hs, hs2])) hs hs2) fun σ H Rr ⟨R, W0, W, g, e, rep, q⟩ => by
    refine ⟨R, W0, W, g, e, rep, q.bind.imp fun v W1 g1 H1 l1 rep1 q1 w rw' => ?_⟩
    refine ⟨R, W0, W1, g1, e, rep1, q1.bind.imp fun v' W2 g2 H2 l2 rep2 q2 w2 rw2 => ?_⟩
    cases v with
    | int i =>
      cases v' with
      | int j =>
        simp only at q2
        split at q2
        · rename_i hc
          simp only [Bool.and_eq_true, decide_eq_true_eq] at hc
          obtain rfl : w = .int i := rw'
          obtain rfl : w2 = .int j := rw2
          exact ⟨i, j, rfl, ⟨by omega, by omega, by omega, by omega⟩, q2 W2 H2 (Le.refl _) rep2 _ (itOk_range (by omega))⟩
        · exact q2.elim
      | _ => exact q2.elim
    | _ => exact q2.elim
end
end Q

namespace Q
open PySem L2

/-! ## list comprehensions -/
def notOwn (e : Env) (i : Nat) : Bool := match e[i]? with
  | some (.own _) => false
  | _ => true
def wipeE (e : Env) : List Nat → Env
  | [] => e
  | v :: vs => (wipeE e vs).set v .un
theorem wipeE_get {e : Env} {i : Nat} : ∀ {vs : List Nat}, i ∉ vs → (wipeE e vs)[i]? = e[i]?
  | [], _ => rfl
  | v :: vs, h => by
    unfold wipeE
    have h1 : v ≠ i := fun z => h (by simp [z])
    rw [List.getElem?_set_ne h1, wipeE_get (fun z => h (List.mem_cons_of_mem _ z))]
theorem wipe_get {σ : St} {i : Nat} : ∀ {vs : List Nat}, i ∉ vs → (wipe σ vs)[i]? = σ[i]?
  | [], _ => rfl
  | v :: vs, h => by
    unfold wipe
    have h1 : v ≠ i := fun z => h (by simp [z])
    rw [List.getElem?_set_ne h1, wipe_get (fun z => h (List.mem_cons_of_mem _ z))]
theorem wipeE_in {e : Env} {i : Nat} : ∀ {vs : List Nat}, i ∈ vs → (wipeE e vs)[i]? = e[i]?.map fun _ => SV.un
  | v :: vs, h => by
    unfold wipeE
    by_cases z : v = i
    · subst z
      rw [List.getElem?_set_self']
      by_cases y : v ∈ vs
      · rw [wipeE_in y]; cases e[v]? <;> rfl
      · rw [wipeE_get y]; rfl
    · rw [List.getElem?_set_ne z]
      rcases List.mem_cons.mp h with h | h
      · exact absurd h.symm z
      · exact wipeE_in h
theorem wipe_in {e : St} {i : Nat} : ∀ {vs : List Nat}, i ∈ vs → (wipe e vs)[i]? = e[i]?.map fun _ => none
  | v :: vs, h => by
    unfold wipe
    by_cases z : v = i
    · subst z
      rw [List.getElem?_set_self']
      by_cases y : v ∈ vs
      · rw [wipe_in y]; cases e[v]? <;> rfl
      · rw [wipe_get y]; rfl
    · rw [List.getElem?_set_ne z]
      rcases List.mem_cons.mp h with h | h
      · exact absurd h.symm z
      · exact wipe_in h
theorem wipeE_idem (e : Env) (vs : List Nat) : wipeE (wipeE e vs) vs = wipeE e vs := by
  apply List.ext_getElem?; intro i
  by_cases h : i ∈ vs
  · rw [wipeE_in h, wipeE_in h]; cases e[i]? <;> rfl
  · rw [wipeE_get h]
theorem wipe_idem (e : St) (vs : List Nat) : wipe (wipe e vs) vs = wipe e vs := by
  apply List.ext_getElem?; intro i
  by_cases h : i ∈ vs
  · rw [wipe_in h, wipe_in h]; cases e[i]? <;> rfl
  · rw [wipe_get h]
section
variable {K : PySem.W.Frag} {R : Hp} {W0 W W1 : Wd} {g g1 : G} {e : Env} {σ : St} {H H' : Hp}
theorem Rep.wiped (r : Rep K R W0 W g e σ H) : ∀ vs : List Nat, Rep K R W0 W g (wipeE e vs) (wipe σ vs) H
  | [] => r
  | _ :: vs => (Rep.wiped r vs).forget
theorem Rep.unwiped (r : Rep K R W0 W g e σ H) {vs : List Nat} (h : vs.all (notOwn e) = true) (l : Le W W1) (r1 : Rep K R W0 W1 g1 (wipeE e vs) (wipe σ vs) H') : Rep K R W0 W1 g1 e σ H' := by
  refine ⟨r1.toRepG, r.len, fun i s hs => ?_⟩
  by_cases hi : i ∈ vs
  · have q := List.all_eq_true.mp h i hi
    unfold notOwn at q
    rw [hs] at q
    cases s with
    | un => trivial
    | val p => obtain ⟨v, h1, h2⟩ := r.slot i _ hs; exact ⟨v, h1, RepV.mono l _ _ h2⟩
    | own o => cases q
  · have q := r1.slot i s (by rw [wipeE_get hi]; exact hs)
    rw [wipe_get hi] at q; exact q
/-- same slots outside, so the wiped is the same -/
theorem Rep.wiped_of {e2 : Env} {σ2 : St} {vs : List Nat} (hσ : wipe σ2 vs = wipe σ vs) (r : Rep K R W0 W g e2 σ2 H) (hE : wipeE e2 vs = wipeE e vs) : Rep K R W0 W g (wipeE e vs) (wipe σ vs) H := by
  have q := r.wiped vs
  rw [hσ, hE] at q; exact q
end
theorem wipeE_set (e : Env) (i : Nat) (o : SV) : ∀ vs : List Nat, wipeE (e.set i o) vs = if i ∈ vs then wipeE e vs else (wipeE e vs).set i o
  | [] => by simp [wipeE]
  | v :: vs => by
    unfold wipeE
    rw [wipeE_set e i o vs]
    by_cases h : i ∈ vs
    · rw [if_pos h, if_pos (List.mem_cons_of_mem _ h)]
    · rw [if_neg h]
      by_cases z : i = v
      · subst z; rw [if_pos (by simp), List.set_set]
      · rw [if_neg (by simp [h, z]), List.set_comm _ _ z]
mutual
theorem put_wipeE : ∀ (p : Pat) (x : PV) (e e' : Env) (vs : List Nat), p.put x e = some e' → (∀ i ∈ p.slots, i ∈ vs) → wipeE e' vs = wipeE e vs
  | .nm i, x, e, e', vs, h, k => by cases h; rw [wipeE_set, if_pos (k i (by simp [Pat.slots]))]
  | .tp ps, .tup xs, e, e', vs, h, k => puts_wipeE ps xs e e' vs h k
  | .tp ps, .non, e, e', vs, h, k => by cases h
  | .tp ps, .bl _, e, e', vs, h, k => by cases h
  | .tp ps, .int _, e, e', vs, h, k => by cases h
  | .tp ps, .str _, e, e', vs, h, k => by cases h
  | .tp ps, .lst _, e, e', vs, h, k => by cases h
  | .tp ps, .scr _, e, e', vs, h, k => by cases h
  | .tp ps, .ref _, e, e', vs, h, k => by cases h
  | .tp ps, .bor _, e, e', vs, h, k => by cases h
  | .tp ps, .ext _, e, e', vs, h, k => by cases h
theorem puts_wipeE : ∀ (ps : List Pat) (xs : List PV) (e e' : Env) (vs : List Nat), Pat.puts ps xs e = some e' → (∀ i ∈ Pat.slotss ps, i ∈ vs) → wipeE e' vs = wipeE e vs
  | [], [], e, e', vs, h, k => by cases h; rfl
  | [], _ :: _, e, e', vs, h, k => by cases h
  | _ :: _, [], e, e', vs, h, k => by cases h
  | p :: ps, x :: xs, e, e', vs, h, k => by
    have h : (Pat.put p x e).bind (fun e' => Pat.puts ps xs e') = some e' := h
    cases hp : Pat.put p x e with
    | none => rw [hp] at h; cases h
    | some e1 =>
      rw [hp] at h
      rw [puts_wipeE ps xs e1 e' vs h (fun i hi => k i (by simp [Pat.slotss, hi])), put_wipeE p x e e1 vs hp (fun i hi => k i (by simp [Pat.slotss, hi]))]
end

def noExc {α : Type} : Res α → Res α
  | .ok v g => .ok v g
  | _ => .bad
def compRun (p : Pat) (tt : ET) (te : EE) (e : Env) : List PV → G → Res (List PV)
  | [], g => .ok [] g
  | x :: xs, g => match p.put x e with
    | none => .bad
    | some e2 => (noExc (tt e2 g)).bind fun b g1 => if b then (noExc (te e2 g1)).bind fun y g2 => (compRun p tt te e xs g2).bind fun ys g3 => .ok (y :: ys) g3 else compRun p tt te e xs g1
def eComp (it : EL) (vs : List Nat) (p : Pat) (tt : ET) (te : EE) : EL := fun e g => if vs.all (notOwn e) then (it e g).bind fun items g1 => compRun p tt te (wipeE e vs) items g1 else .bad
theorem noExc_ok {α : Type} {r : Res α} {v : α} {g : G} (h : noExc r = .ok v g) : r = .ok v g := by
  cases r with
  | ok a b => exact h
  | _ => cases h
theorem compRun_ok (p : Pat) (tt : ET) (te : EE) (e : Env) : ∀ (xs : List PV) (g : G), (∃ ys g', compRun p tt te e xs g = .ok ys g') ∨ compRun p tt te e xs g = .bad
  | [], g => .inl ⟨[], g, rfl⟩
  | x :: xs, g => by
    unfold compRun
    cases hp : p.put x e with
    | none => exact .inr rfl
    | some e2 =>
      dsimp only
      cases h1 : tt e2 g with
      | ok b g1 =>
        cases b with
        | true =>
          simp only [noExc, Res.bind, if_true]
          cases h2 : te e2 g1 with
          | ok y g2 =>
            simp only [noExc, Res.bind]
            rcases compRun_ok p tt te e xs g2 with ⟨ys, g', h⟩ | h
            · rw [h]; exact .inl ⟨_, _, rfl⟩
            · rw [h]; exact .inr rfl
          | _ => exact .inr rfl
        | false =>
          simp only [noExc, Res.bind, Bool.false_eq_true, if_false]
          exact compRun_ok p tt te e xs g1
      | _ => exact .inr rfl
abbrev wx0 : WX := fun _ _ _ _ => False
/-- the outcome of a part of a block, where nothing may be raised -/
theorem oc0 {α : Type} {mg : MG} {K : PySem.W.Frag} {R : Hp} {W0 W : Wd} {e : Env} {σ : St} {r : Res α} {v : α} {g : G} {C : α → Wd → G → Hp → Prop} (h : noExc r = .ok v g) (k : ∀ W' H', Le W W' → Rep K R W0 W' g e σ H' → C v W' g H') : Oc mg K R W0 e σ wx0 W r C := by
  rw [noExc_ok h]; exact k
def QTs (X : Cx) (wx : WX) (ifs : List Expr) (f : ET) : Prop := PTs X ifs (tT X.mg X.K wx f)
def tYes' : ET := fun _ g => .ok true g
section
variable {X : Cx} {wx : WX}
theorem qt_nil : QTs X wx [] tYes' := ⟨fun pins s σ H Q I ⟨R, W0, W, g, e, rep, q⟩ => pts_nil.run pins s σ H Q I (q W H (Le.refl _) rep)⟩
theorem qt_one {c : Expr} {f : ET} (h : QT X wx c f) : QTs X wx [c] f := pts_one h

/-- the reading of a comprehension of one clause -/
theorem tF_comp {it : EL} {vs : List Nat} {p : Pat} {tt : ET} {te : EE} (hp : ∀ i ∈ p.slots, i ∈ vs) (σ : St) (H : Hp) (Q : VK) (h : tF X.mg X.K wx (eComp it vs p tt te) σ H Q) :
    tLc (tI X.mg X.K wx it) (tG X.K p) (tT X.mg X.K wx0 tt) (tE X.mg X.K wx0 te) vs σ H Q := by
  obtain ⟨R, W0, W, g, e, rep, q⟩ := h
  unfold eComp at q
  cases hv : vs.all (notOwn e) with
  | false => rw [hv] at q; exact q.elim
  | true =>
    rw [hv] at q
    refine ⟨R, W0, W, g, e, rep, q.bind.imp fun items W1 g1 H1 l1 rep1 q1 J hJ D hD => ?_⟩
    rcases compRun_ok p tt te (wipeE e vs) items g1 with ⟨tot, gF, hrun⟩ | hrun
    · rw [hrun] at q1
      obtain ⟨repD, hWD, hRD⟩ := rep1.newLst (u := .lst []) hD
      have repW := repD.wiped vs
      refine ⟨fun i m H2 => m = items.length - i ∧ i ≤ items.length ∧ ∃ W2 g2 acc av rest, Le W1 W2 ∧ Rep X.K R W0 W2 g2 (wipeE e vs) (wipe σ vs) H2 ∧ W2 D = none ∧ H2 D = some (.lst av) ∧ RepVs X.K W2 acc av ∧ av.length ≤ i ∧
        compRun p tt te (wipeE e vs) (items.drop i) g2 = .ok rest gF ∧ acc ++ rest = tot, ⟨_, rfl, Nat.zero_le _, W1, g1, [], [], tot, Le.refl _, repW, hWD, upd_same, rfl, Nat.le_refl _, hrun, rfl⟩, ?_⟩
      rintro i m H2 ⟨rfl, hi, W2, g2, acc, av, rest, l2, rep2, hW2, hH2, hr2, hl2, hc2, ht2⟩
      by_cases hlt : i < items.length
      · refine .inr ⟨hJ.go R W0 W2 g2 _ _ H2 i l2 rep2 hlt, _, fun H3 h3 => ⟨items.length - (i + 1), by omega, rfl, hlt, h3⟩, fun x H3 hy => ?_⟩
        obtain ⟨W3, pv, hpv, l3, rep3, rv3⟩ := hJ.yld _ _ W2 g2 _ _ H2 i x H3 l2 (rep2.guard hW2 hH2) hlt hy
        have hd : items.drop i = pv :: items.drop (i + 1) := by
          obtain ⟨h1, h2⟩ := List.getElem?_eq_some_iff.mp hpv
          rw [List.drop_eq_getElem_cons hlt, h2]
        rw [hd] at hc2
        unfold compRun at hc2
        cases hput : p.put pv (wipeE e vs) with
        | none => rw [hput] at hc2; cases hc2
        | some e2 =>
          rw [hput] at hc2
          dsimp only at hc2
          refine ⟨_, _, W3, g2, _, pv, e2, rep3, rv3, hput, fun σ2 rep4 o4 => ?_⟩
          have hσ : wipe σ2 vs = wipe σ vs := by rw [o4 vs hp, wipe_idem]
          have hE : wipeE e2 vs = wipeE e vs := by rw [put_wipeE p pv _ e2 vs hput hp, wipeE_idem]
          refine ⟨hσ, ?_⟩
          cases ht : noExc (tt e2 g2) with
          | ok b g4 =>
            rw [ht] at hc2
            refine ⟨_, _, W3, g2, e2, rep4, oc0 ht fun W5 H5 l5 rep5 => ?_⟩
            cases b with
            | false =>
              obtain ⟨rep6, hW6, hH6⟩ := rep5.unguard hRD
              refine iteF ⟨W5, g4, acc, av, rest, (l2.trans l3).trans l5, rep6.wiped_of hσ hE, hW6, hH6, RepVs.mono (l3.trans l5) _ _ hr2, Nat.le_succ_of_le hl2, hc2, ht2⟩
            | true =>
              refine iteT ?_
              simp only [Res.bind, if_true] at hc2
              cases hy2 : noExc (te e2 g4) with
              | ok y g5 =>
                rw [hy2] at hc2
                simp only at hc2
                refine ⟨_, _, W5, g4, e2, rep5, oc0 hy2 fun W6 H6 l6 rep6 v rv => ?_⟩
                obtain ⟨rep7, hW7, hH7⟩ := rep6.unguard hRD
                have hlz : av.length < sizeLine := by have := hJ.len; omega
                refine ⟨av, hH7, hlz, ?_⟩
                have ne7 : ∀ {b k}, W6 b = some k → b ≠ D := fun h z => by subst z; rw [hW7] at h; cases h
                have rep8 : Rep X.K R W0 W6 g5 e2 σ2 (upd H6 D (.lst (av ++ [v]))) := by
                  refine ⟨⟨fun a o h => ?_, rep7.base, fun a k h => ?_, fun a k us h => ?_, fun a us h => ?_, fun a n h => ?_, rep7.uq, rep7.ow⟩, rep7.len, fun j s h => ?_⟩
                  · rw [upd_ne (fun z => by subst z; rw [hRD] at h; cases h)]; exact rep7.prot a o h
                  · obtain ⟨o, q⟩ := rep7.dom a k h
                    exact ⟨o, by rw [upd_ne (ne7 h)]; exact q⟩
                  · obtain ⟨h1, h2⟩ := rep7.fz a k us h
                    exact ⟨by rw [upd_ne (ne7 h)]; exact h1, h2⟩
                  · obtain ⟨h1, h2⟩ := rep7.rd a us h
                    exact ⟨rd_mono (fun u q => by rw [upd_ne (ne7 h)]; exact q) h1, h2⟩
                  · obtain ⟨h1, o, h2, h3⟩ := rep7.gl a n h
                    exact ⟨h1, o, h2, RepO.mono (Le.refl _) (fun u q => by rw [upd_ne (ne7 h)]; exact q) h3⟩
                  · exact (rep7.slot j s h).mono (Le.refl _) (fun _ q => q) (fun a u q w => by rw [upd_ne (ne7 q)]; exact w)
                cases hrest : compRun p tt te (wipeE e vs) (items.drop (i + 1)) g5 with
                | ok ys g6 =>
                  rw [hrest] at hc2
                  cases hc2
                  refine ⟨W6, g5, acc ++ [y], av ++ [v], ys, ((l2.trans l3).trans l5).trans l6, rep8.wiped_of hσ hE, hW7, upd_same, RepVs.append (RepVs.mono ((l3.trans l5).trans l6) _ _ hr2) (.one rv), by rw [List.length_append, List.length_singleton]; omega, hrest, ?_⟩
                  rw [List.append_assoc]; exact ht2
                | _ => rw [hrest] at hc2; cases hc2
              | _ => rw [hy2] at hc2; cases hc2
          | _ => rw [ht] at hc2; cases hc2
      · have hi' : i = items.length := by omega
        subst hi'
        rw [List.drop_length] at hc2
        cases hc2
        rw [List.append_nil] at ht2
        subst ht2
        refine .inl ⟨hJ.stop R W0 W2 _ _ _ H2 l2 rep2, ?_⟩
        exact q1 W2 H2 l2 (rep1.unwiped hv l2 rep2) D av hW2 hRD hH2 hr2 (Nat.le_trans hl2 hJ.len)
    · rw [hrun] at q1; exact q1.elim
end
end Q

namespace Q
open PySem L2
section
variable {X : Cx} {wx : WX}
/-- the blocks of comprehensions -/
theorem q_comp {elt tg iter : Expr} {ifs : List Expr} {scope : Scope} {own : List (Str × Nat)} {pos : Pos} {it : EL} {p : Pat} {tt : ET} {te : EE} (hc : X.calm = true) (hN : X.N.Nodup) (ok : BlkOk X.N X.env.scope scope own) (hp : ∀ i ∈ p.slots, i ∈ own.map (·.2))
    (hi : QI X wx tg iter it)
    (hg : ∀ (s : Shared) (H : Hp) (C : Addr) (cl : List (Str × Addr)) (fp : List Addr), QG (X.blk s H scope (compEnvC scope cl C X.env) fp) tg p)
    (ht : ∀ (s : Shared) (H : Hp) (C : Addr) (cl : List (Str × Addr)) (fp : List Addr), QTs (X.blk s H scope (compEnvC scope cl C X.env) fp) wx0 ifs tt)
    (he : ∀ (s : Shared) (H : Hp) (C : Addr) (cl : List (Str × Addr)) (fp : List Addr), QE (X.blk s H scope (compEnvC scope cl C X.env) fp) wx0 elt te) (hs : ∀ x, foldedSetIterable iter X.env x = pure x := by intro _; rfl) :
    QF X wx (.ListComp elt [⟨tg, iter, ifs, 0⟩] scope pos) (eComp it (own.map (·.2)) p tt te) :=
  PE.weak (pe_lc (g := tG X.K p) (tt := tT X.mg X.K wx0 tt) (te := tE X.mg X.K wx0 te) hc hN hi ok hg ht he hs) (tF_comp hp)

/-! ## statements -/
def Res.toS {α : Type} (r : Res α) (e : Env) (k : α → G → RS) : RS := match r with
  | .ok v g => k v g
  | .exc x g => .exc x e g
  | .bad => .bad
theorem OcS.of {mg : MG} {K : PySem.W.Frag} {R : Hp} {W0 W : Wd} {e : Env} {σ : St} {α : Type} {r : Res α} {k : α → G → RS} {D : Ends} (h : OcS mg K R W0 wx W (r.toS e k) D) : Oc mg K R W0 e σ wx W r (fun a W' g' _ => OcS mg K R W0 wx W' (k a g') D) := by
  cases r with
  | ok a g => exact fun W2 H2 l2 rep => OcS.mono l2 h
  | exc x g => exact fun W2 H2 cls d l2 rep => h W2 σ H2 cls d l2 rep
  | bad => exact h
def sSet (i : Nat) (f : EE) : SS := fun e g => (f e g).toS e fun p g1 => .nx (e.set i (.val p)) g1
theorem q_setBy {st : Stmt} {t : TE} {i : Nat} {f : EE} (h : PS X st (tAsg t (gName i))) (ht : ∀ σ H Q, tE X.mg X.K wx f σ H Q → t σ H Q) : QS X wx st (sSet i f) := PS.weak h fun D σ H ⟨R, W0, W, g, e, rep, q⟩ => by
  refine ht σ H _ ⟨R, W0, W, g, e, rep, (OcS.of q).imp fun p W1 g1 H1 l1 rep1 q1 v rv => ?_⟩
  exact q1 W1 _ H1 (Le.refl _) (rep1.store rv)
/-- a new list, the slot's own -/
def sOwn (i : Nat) (f : EL) : SS := fun e g => (f e g).toS e fun xs g1 => .nx (e.set i (.own (.lst xs))) g1
theorem q_ownBy {st : Stmt} {t : TE} {i : Nat} {f : EL} (h : PS X st (tAsg t (gName i))) (ht : ∀ σ H Q, tF X.mg X.K wx f σ H Q → t σ H Q) : QS X wx st (sOwn i f) := PS.weak h fun D σ H ⟨R, W0, W, g, e, rep, q⟩ => by
  refine ht σ H _ ⟨R, W0, W, g, e, rep, (OcS.of q).imp fun xs W1 g1 H1 l1 rep1 q1 a vs hW hR hH hr hl => ?_⟩
  obtain ⟨r2, l2⟩ := rep1.storeOwn (i := i) (o := .lst xs) hW hR hH ⟨vs, hH, hr, hl⟩
  exact q1 _ _ _ l2 r2
theorem tE_eLst {f : EL} (σ : St) (H : Hp) (Q : VK) (h : tE X.mg X.K wx (eLst f) σ H Q) : tF X.mg X.K wx f σ H Q := by
  obtain ⟨R, W0, W, g, e, rep, q⟩ := h
  refine ⟨R, W0, W, g, e, rep, q.bind.imp fun xs W' g' H' l r c a vs hW hR hH hr hl => ?_⟩
  obtain ⟨r', l'⟩ := r.frozen hW hR hH hl
  exact c _ _ l' r' _ ⟨a, vs, rfl, putW_same, RepVs.mono l' _ _ hr⟩
section
variable {i : Nat} {n : Str} {x : Expr} {pos pos' : Pos}
theorem q_set (i : Nat) {f : EE} (hN : X.N.Nodup) (h : QE X wx x f) (hi : X.N[i]? = some n := by rfl) (hx : Loc X.env.scope n := by first | exact Or.inl rfl | exact Or.inr rfl) (hs : swapsWith x (some (.Name n pos')) pos.line X.env = pure false := by rfl) (hf : X.fn n = true ∨ X.env.scope.names.lookup n = some .local := by first | exact .inl rfl | exact .inr rfl) :
    QS X wx (.Assign [.Name n pos'] x pos) (sSet i f) := q_setBy (ps_set hN hi hx h hs hf) fun _ _ _ h => h
theorem q_own (i : Nat) {f : EL} (hN : X.N.Nodup) (h : QF X wx x f) (hi : X.N[i]? = some n := by rfl) (hx : Loc X.env.scope n := by first | exact Or.inl rfl | exact Or.inr rfl) (hs : swapsWith x (some (.Name n pos')) pos.line X.env = pure false := by rfl) (hf : X.fn n = true ∨ X.env.scope.names.lookup n = some .local := by first | exact .inl rfl | exact .inr rfl) :
    QS X wx (.Assign [.Name n pos'] x pos) (sOwn i f) := q_ownBy (ps_set hN hi hx h hs hf) fun _ _ _ h => h
variable {elt tg iter : Expr} {ifs : List Expr} {scope : Scope} {own : List (Str × Nat)} {it : EL} {p : Pat} {tt : ET} {te : EE}
theorem q_setComp (i : Nat) (hc : X.calm = true) (hN : X.N.Nodup) (ok : BlkOk X.N X.env.scope scope own) (hp : ∀ i ∈ p.slots, i ∈ own.map (·.2)) (hsw : swapsWith (.ListComp elt [⟨tg, iter, ifs, 0⟩] scope pos) (some (.Name n pos')) pos''.line X.env = pure true)
    (hi : QI X wx tg iter it) (hg : ∀ (s : Shared) (H : Hp) (C : Addr) (cl : List (Str × Addr)) (fp : List Addr), QG (X.blk s H scope (compEnvC scope cl C X.env) fp) tg p)
    (ht : ∀ (s : Shared) (H : Hp) (C : Addr) (cl : List (Str × Addr)) (fp : List Addr), QTs (X.blk s H scope (compEnvC scope cl C X.env) fp) wx0 ifs tt)
    (he : ∀ (s : Shared) (H : Hp) (C : Addr) (cl : List (Str × Addr)) (fp : List Addr), QE (X.blk s H scope (compEnvC scope cl C X.env) fp) wx0 elt te)
    (hy : X.N[i]? = some n := by rfl) (hyl : X.env.scope.names.lookup n = some .local := by rfl) (hs : ∀ x, foldedSetIterable iter X.env x = pure x := by intro _; rfl) :
    QS X wx (.Assign [.Name n pos'] (.ListComp elt [⟨tg, iter, ifs, 0⟩] scope pos) pos'') (sSet i (eLst (eComp it (own.map (·.2)) p tt te))) :=
  q_setBy (ps_setLc (g := tG X.K p) (tt := tT X.mg X.K wx0 tt) (te := tE X.mg X.K wx0 te) hc hN hy hyl hsw hi ok hg ht he hs) fun σ H Q h => tF_comp hp σ H Q (tE_eLst σ H Q h)
theorem q_ownComp (i : Nat) (hc : X.calm = true) (hN : X.N.Nodup) (ok : BlkOk X.N X.env.scope scope own) (hp : ∀ i ∈ p.slots, i ∈ own.map (·.2)) (hsw : swapsWith (.ListComp elt [⟨tg, iter, ifs, 0⟩] scope pos) (some (.Name n pos')) pos''.line X.env = pure true)
    (hi : QI X wx tg iter it) (hg : ∀ (s : Shared) (H : Hp) (C : Addr) (cl : List (Str × Addr)) (fp : List Addr), QG (X.blk s H scope (compEnvC scope cl C X.env) fp) tg p)
    (ht : ∀ (s : Shared) (H : Hp) (C : Addr) (cl : List (Str × Addr)) (fp : List Addr), QTs (X.blk s H scope (compEnvC scope cl C X.env) fp) wx0 ifs tt)
    (he : ∀ (s : Shared) (H : Hp) (C : Addr) (cl : List (Str × Addr)) (fp : List Addr), QE (X.blk s H scope (compEnvC scope cl C X.env) fp) wx0 elt te)
    (hy : X.N[i]? = some n := by rfl) (hyl : X.env.scope.names.lookup n = some .local := by rfl) (hs : ∀ x, foldedSetIterable iter X.env x = pure x := by intro _; rfl) :
    QS X wx (.Assign [.Name n pos'] (.ListComp elt [⟨tg, iter, ifs, 0⟩] scope pos) pos'') (sOwn i (eComp it (own.map (·.2)) p tt te)) :=
  q_ownBy (ps_setLc (g := tG X.K p) (tt := tT X.mg X.K wx0 tt) (te := tE X.mg X.K wx0 te) hc hN hy hyl hsw hi ok hg ht he hs) (tF_comp hp)
end

section
variable {st : Stmt} {rest : List Stmt} {f k : SS} {x : Expr} {fe : EE} {pos pos' : Pos}
def sNil : SS := fun e g => .nx e g
def sSeq (f k : SS) : SS := fun e g => match f e g with
  | .nx e1 g1 => k e1 g1
  | r => r
theorem qs_nil : QSs X wx [] sNil := PSs.weak pss_nil fun D σ H ⟨R, W0, W, g, e, rep, q⟩ => q W σ H (Le.refl _) rep
theorem qs_cons (h : QS X wx st f) (h' : QSs X wx rest k) : QSs X wx (st :: rest) (sSeq f k) := PSs.weak (pss_cons h h') fun D σ H ⟨R, W0, W, g, e, rep, q⟩ => by
  refine ⟨R, W0, W, g, e, rep, ?_⟩
  unfold sSeq at q
  cases hf : f e g with
  | nx e1 g1 =>
    rw [hf] at q
    exact fun W' σ' H' l rep' => ⟨R, W0, W', g1, e1, rep', OcS.mono l q⟩
  | _ => rw [hf] at q; exact q
theorem qs_one (h : QS X wx st f) : QSs X wx [st] f := pss_one h
theorem q_pass : QS X wx (.Pass pos) sNil := PS.weak ps_pass fun D σ H ⟨R, W0, W, g, e, rep, q⟩ => q W σ H (Le.refl _) rep
def sBreak : SS := fun e g => .bk e g
def sCont : SS := fun e g => .ct e g
theorem q_break : QS X wx (.Break pos) sBreak := PS.weak ps_break fun D σ H ⟨R, W0, W, g, e, rep, q⟩ => q W σ H (Le.refl _) rep
theorem q_continue : QS X wx (.Continue pos) sCont := PS.weak ps_continue fun D σ H ⟨R, W0, W, g, e, rep, q⟩ => q W σ H (Le.refl _) rep
theorem q_doc {s j} : QS X wx (.Expr (.Constant (.str s) j pos) pos') sNil := PS.weak ps_doc fun D σ H ⟨R, W0, W, g, e, rep, q⟩ => q W σ H (Le.refl _) rep
def sDrop (f : EE) : SS := fun e g => (f e g).toS e fun _ g1 => .nx e g1
theorem q_drop (h : QE X wx x fe) (hs : swapsWith x none pos.line X.env = pure false := by rfl) : QS X wx (.Expr x pos) (sDrop fe) := PS.weak (ps_expr h hs) fun D σ H ⟨R, W0, W, g, e, rep, q⟩ =>
  ⟨R, W0, W, g, e, rep, (OcS.of q).imp fun p W1 g1 H1 l1 rep1 q1 v rv => q1 W1 σ H1 (Le.refl _) rep1⟩
def sRet (f : EE) : SS := fun e g => (f e g).toS e fun p g1 => .rt p g1
theorem q_ret (h : QE X wx x fe) : QS X wx (.Return (some x) pos) (sRet fe) := PS.weak (ps_ret h) fun D σ H ⟨R, W0, W, g, e, rep, q⟩ =>
  ⟨R, W0, W, g, e, rep, (OcS.of q).imp fun p W1 g1 H1 l1 rep1 q1 v rv => q1 W1 v H1 (Le.refl _) rep1.toRepG rv⟩
def sRetN : SS := fun _ g => .rt .non g
theorem q_retN : QS X wx (.Return none pos) sRetN := PS.weak ps_retN fun D σ H ⟨R, W0, W, g, e, rep, q⟩ => q W .non H (Le.refl _) rep.toRepG rfl
def sIf (c : ET) (f k : SS) : SS := fun e g => (c e g).toS e fun b g1 => if b then f e g1 else k e g1
theorem q_if {c : Expr} {a b : List Stmt} {fc : ET} (hc : QT X wx c fc) (h : QSs X wx a f) (h' : QSs X wx b k) : QS X wx (.If c a b pos) (sIf fc f k) := PS.weak (ps_if hc h h') fun D σ H ⟨R, W0, W, g, e, rep, q⟩ => by
  refine ⟨R, W0, W, g, e, rep, (OcS.of q).imp fun b W1 g1 H1 l1 rep1 q1 => ?_⟩
  cases b with
  | true => exact iteT ⟨R, W0, W1, g1, e, rep1, q1⟩
  | false => exact iteF ⟨R, W0, W1, g1, e, rep1, q1⟩
/-- a slot's own list frozen ahead of a statement -/
def sFz (i : Nat) (f : SS) : SS := fun e g => match e[i]? with
  | some (.own (.lst xs)) => f (e.set i (.val (.lst xs))) g
  | _ => .bad
theorem q_fz (i : Nat) (h : QS X wx st f) : QS X wx st (sFz i f) := PS.weak h fun D σ H ⟨R, W0, W, g, e, rep, q⟩ => by
  unfold sFz at q
  cases he : e[i]? with
  | none => rw [he] at q; exact q.elim
  | some s =>
    rw [he] at q
    cases s with
    | own o =>
      cases o with
      | lst xs =>
        obtain ⟨W', l, rep'⟩ := rep.freeze he
        exact ⟨R, W0, W', g, _, rep', OcS.mono l q⟩
      | _ => exact q.elim
    | _ => exact q.elim

/-! ### loops -/
def forRun (p : Pat) (body : SS) : List PV → Env → G → RS
  | [], e, g => .nx e g
  | x :: xs, e, g => match p.put x e with
    | none => .bad
    | some e1 => match body e1 g with
      | .nx e2 g2 => forRun p body xs e2 g2
      | .ct e2 g2 => forRun p body xs e2 g2
      | .bk e2 g2 => .nx e2 g2
      | r => r
def sFor (it : EL) (p : Pat) (body : SS) : SS := fun e g => (it e g).toS e fun items g1 => forRun p body items e g1
theorem q_for {tg iter : Expr} {body : List Stmt} {it : EL} {p : Pat} (hp : PassesOwn (model X.prog X.w) X.A X.env X.xe) (hc : X.calm = true) (hi : QI X wx tg iter it) (hg : QG X tg p) (hb : QSs X wx body f) (hs : ∀ x, foldedSetIterable iter X.env x = pure x := by intro _; rfl) :
    QS X wx (.For tg iter body [] pos) (sFor it p f) := PS.weak (ps_for hp hc hi hg hb hs) fun D σ H ⟨R, W0, W, g, e, rep, q⟩ => by
  refine ⟨R, W0, W, g, e, rep, (OcS.of q).imp fun items W1 g1 H1 l1 rep1 q1 J hJ => ?_⟩
  refine ⟨fun i m σ2 H2 => m = items.length - i ∧ i ≤ items.length ∧ ∃ W2 g2 e2, Le W1 W2 ∧ Rep X.K R W0 W2 g2 e2 σ2 H2 ∧ OcS X.mg X.K R W0 wx W2 (forRun p f (items.drop i) e2 g2) D, ⟨_, rfl, Nat.zero_le _, W1, g1, e, Le.refl _, rep1, q1⟩, ?_⟩
  rintro i m σ2 H2 ⟨rfl, hi, W2, g2, e2, l2, rep2, q2⟩
  by_cases hlt : i < items.length
  · refine .inr ⟨hJ.go R W0 W2 g2 e2 σ2 H2 i l2 rep2 hlt, _, fun σ3 H3 h3 => ⟨items.length - (i + 1), by omega, rfl, hlt, h3⟩, fun x H3 hy => ?_⟩
    obtain ⟨W3, pv, hpv, l3, rep3, rv3⟩ := hJ.yld R W0 W2 g2 e2 σ2 H2 i x H3 l2 rep2 hlt hy
    have hd : items.drop i = pv :: items.drop (i + 1) := by
      obtain ⟨h1, h2⟩ := List.getElem?_eq_some_iff.mp hpv
      rw [List.drop_eq_getElem_cons hlt, h2]
    rw [hd] at q2
    unfold forRun at q2
    cases hput : p.put pv e2 with
    | none => rw [hput] at q2; exact q2.elim
    | some e3 =>
      rw [hput] at q2
      dsimp only at q2
      refine ⟨R, W0, W3, g2, e2, pv, e3, rep3, rv3, hput, fun σ4 rep4 _ => ⟨R, W0, W3, g2, e3, rep4, ?_⟩⟩
      replace q2 := OcS.mono l3 q2
      cases hf : f e3 g2 with
      | nx e5 g5 => rw [hf] at q2; exact fun W5 σ5 H5 l5 rep5 => ⟨W5, g5, e5, (l2.trans l3).trans l5, rep5, OcS.mono l5 q2⟩
      | ct e5 g5 => rw [hf] at q2; exact fun W5 σ5 H5 l5 rep5 => ⟨W5, g5, e5, (l2.trans l3).trans l5, rep5, OcS.mono l5 q2⟩
      | bk e5 g5 => rw [hf] at q2; exact fun W5 σ5 H5 l5 rep5 => q2 W5 σ5 H5 l5 rep5
      | rt v g5 => rw [hf] at q2; exact q2
      | exc x e5 g5 => rw [hf] at q2; exact q2
      | bad => rw [hf] at q2; exact q2
  · have hi' : i = items.length := by omega
    subst hi'
    rw [List.drop_length] at q2
    exact .inl ⟨hJ.stop R W0 W2 g2 e2 σ2 H2 l2 rep2, q2 W2 σ2 H2 (Le.refl _) rep2⟩
def whileRun (c : ET) (body : SS) : Nat → Env → G → RS
  | 0, _, _ => .bad
  | n + 1, e, g => (c e g).toS e fun b g1 => if b then (match body e g1 with
      | .nx e2 g2 => whileRun c body n e2 g2
      | .ct e2 g2 => whileRun c body n e2 g2
      | .bk e2 g2 => .nx e2 g2
      | r => r) else .nx e g1
theorem q_while (n : Nat) {c : Expr} {body : List Stmt} {fc : ET} (hp : PassesOwn (model X.prog X.w) X.A X.env X.xe) (hc : QT X wx c fc) (hb : QSs X wx body f) : QS X wx (.While c body [] pos) (whileRun fc f n) := PS.weak (ps_while hp hc hb) fun D σ H ⟨R, W0, W, g, e, rep, q⟩ => by
  refine ⟨fun m σ2 H2 => ∃ W2 g2 e2, Le W W2 ∧ Rep X.K R W0 W2 g2 e2 σ2 H2 ∧ OcS X.mg X.K R W0 wx W2 (whileRun fc f m e2 g2) D, ⟨n, W, g, e, Le.refl _, rep, q⟩, ?_⟩
  rintro m σ2 H2 ⟨W2, g2, e2, l2, rep2, q2⟩
  cases m with
  | zero => exact q2.elim
  | succ m =>
    refine ⟨R, W0, W2, g2, e2, rep2, (OcS.of q2).imp fun b W3 g3 H3 l3 rep3 q3 => ?_⟩
    cases b with
    | false => exact iteF (q3 W3 σ2 H3 (Le.refl _) rep3)
    | true =>
      refine iteT ⟨_, fun σ4 H4 h4 => ⟨m, Nat.lt_succ_self m, h4⟩, R, W0, W3, g3, e2, rep3, ?_⟩
      simp only [if_true] at q3
      cases hf : f e2 g3 with
      | nx e5 g5 => rw [hf] at q3; exact fun W5 σ5 H5 l5 rep5 => ⟨W5, g5, e5, (l2.trans l3).trans l5, rep5, OcS.mono l5 q3⟩
      | ct e5 g5 => rw [hf] at q3; exact fun W5 σ5 H5 l5 rep5 => ⟨W5, g5, e5, (l2.trans l3).trans l5, rep5, OcS.mono l5 q3⟩
      | bk e5 g5 => rw [hf] at q3; exact fun W5 σ5 H5 l5 rep5 => q3 W5 σ5 H5 l5 rep5
      | rt v g5 => rw [hf] at q3; exact q3
      | exc x e5 g5 => rw [hf] at q3; exact q3
      | bad => rw [hf] at q3; exact q3

/-! ### stores -/
/-- a target of any form -/
def sAsg (p : Pat) (f : EE) : SS := fun e g => (f e g).toS e fun v g1 => match p.put v e with
  | some e1 => .nx e1 g1
  | none => .bad
theorem q_asg {tg : Expr} {p : Pat} (h : QE X wx x fe) (hg : QG X tg p) (hs : swapsWithSole [tg] x pos.line X.env = pure false := by rfl) (hw : swappedStores [tg] x X.env = pure none := by rfl) (h1 : (assignEach [tg] X.env).map (·.2) = [assign tg X.env] := by rfl) : QS X wx (.Assign [tg] x pos) (sAsg p fe) :=
  PS.weak (ps_asg h hg hs hw h1) fun D σ H ⟨R, W0, W, g, e, rep, q⟩ => by
    refine ⟨R, W0, W, g, e, rep, (OcS.of q).imp fun v W1 g1 H1 l1 rep1 q1 u ru => ?_⟩
    cases hp : p.put v e with
    | none => rw [hp] at q1; exact q1.elim
    | some e1 =>
      rw [hp] at q1
      exact ⟨R, W0, W1, g1, e, v, e1, rep1, ru, hp, fun σ2 rep2 _ => q1 W1 σ2 H1 (Le.refl _) rep2⟩
/-- a, b = x, y -/
def sPar (i j : Nat) (f : EL) : SS := fun e g => (f e g).toS e fun ps g1 => match ps with
  | [v, w] => .nx ((e.set i (.val v)).set j (.val w)) g1
  | _ => .bad
theorem q_par (i j : Nat) {n m : Str} {a b : Expr} {fl : EL} {px py pt : Pos} {kt k2 pt2} (hc : X.calm = true) (hN : X.N.Nodup) (hij : i ≠ j) (ha : QA X wx [a, b] fl)
    (hw : swappedStores [.Tuple [.Name n px, .Name m py] kt pt] (.Tuple [a, b] k2 pt2) X.env = pure (some [n, m])) (hi : X.N[i]? = some n := by rfl) (hj : X.N[j]? = some m := by rfl)
    (hx : X.env.scope.names.lookup n = some .local := by rfl) (hy : X.env.scope.names.lookup m = some .local := by rfl)
    (hs : swapsWithSole [.Tuple [.Name n px, .Name m py] kt pt] (.Tuple [a, b] k2 pt2) pos.line X.env = pure false := by rfl) :
    QS X wx (.Assign [.Tuple [.Name n px, .Name m py] kt pt] (.Tuple [a, b] k2 pt2) pos) (sPar i j fl) := PS.weak (ps_par hc hN hi hj hij hx hy ha hw hs) fun D σ H ⟨R, W0, W, g, e, rep, q⟩ => by
  refine ⟨R, W0, W, g, e, rep, (OcS.of q).imp fun ps W1 g1 H1 l1 rep1 q1 vs rvs => ?_⟩
  match ps with
  | [v, w] =>
    obtain ⟨a, _, rfl, ra, b, _, rfl, rb, rc⟩ := rvs
    obtain rfl := rc
    exact ⟨a, b, rfl, q1 W1 _ H1 (Le.refl _) ((rep1.store ra).store rb)⟩
  | [] => exact q1.elim
  | [_] => exact q1.elim
  | _ :: _ :: _ :: _ => exact q1.elim
/-- x.append(e), x a slot's own list -/
def sAppend (i : Nat) (f : EE) : SS := fun e g => match e[i]? with
  | some (.own (.lst xs)) => (f e g).toS e fun p g1 => if fits (xs.length + 1) then .nx (e.set i (.own (.lst (xs ++ [p])))) g1 else .bad
  | _ => .bad
theorem fits_lt {n : Nat} (h : fits (n + 1) = true) : n < sizeLine := fits_le h
theorem q_append (i : Nat) {n : Str} {p0 apos cpos : Pos} (h : QE X wx x fe) (hN : X.N[i]? = some n := by rfl) (hv : Vis X.env.scope n := by first | exact Or.inl rfl | exact Or.inr (Or.inl rfl) | exact Or.inr (Or.inr rfl)) (hd : (n == ("__debug__" : Str)) = false := by decide) (hcd : (n == ("__classdict__" : Str)) = false := by decide)
    (hbase : attributeBase (.Name n p0) ("append" : Str) X.env (eval (.Name n p0) X.env) = eval (.Name n p0) X.env := by rfl)
    (hfew : ((backTo cpos (starEach [x] X.env)).all (fun x => !x.1) && (backToKw cpos (keywordEach [] X.env)).all (fun x => x.1.isSome) && decide ([x].length + ([] : List Keyword).length + (if ([] : List Keyword).isEmpty then 0 else 1) < 30)) = true := by rfl)
    (hline : (apos.endLine == cpos.line) = true := by rfl) (hst : starEach [x] X.env = (false, eval x X.env) :: starEach [] X.env := by rfl) (hpl : (backTo cpos (starEach [] X.env)).any (·.1) = false := by rfl)
    (hs : swapsWith (.Call (.Attribute (.Name n p0) "append" apos) [x] [] cpos) none pos.line X.env = pure false := by rfl) :
    QS X wx (.Expr (.Call (.Attribute (.Name n p0) "append" apos) [x] [] cpos) pos) (sAppend i fe) :=
  PS.weak (ps_expr (pe_bm PySem.F.plainAttrs_list PySem.F.slot_list_append PySem.F.type_list_append mt_append (pe_var hN hv hd hcd) (pa_cons h pa_nil hst) hbase hfew hline hst hpl) hs) fun D σ H ⟨R, W0, W, g, e, rep, q⟩ => by
    unfold sAppend at q
    cases he : e[i]? with
    | none => rw [he] at q; exact q.elim
    | some s =>
      rw [he] at q
      cases s with
      | own o =>
        cases o with
        | lst xs =>
          obtain ⟨a, hs1, hW, vs, hH, hr, hl⟩ := rep.slot i _ he
          refine ⟨.ref a, hs1, .inl ⟨rfl, vs, SqL.of hH⟩, R, W0, W, g, e, rep, (OcS.of q).imp fun p W1 g1 H1 l1 rep1 q1 v rv => ?_⟩
          obtain ⟨a', hs2, hW2, vs2, hH2, hr2, hl2⟩ := rep1.slot i _ he
          rw [hs1] at hs2; cases hs2
          cases hf : fits (xs.length + 1) with
          | false => rw [hf] at q1; exact q1.elim
          | true =>
            rw [hf] at q1
            have hz : vs2.length < sizeLine := by rw [hr2.length]; exact fits_lt hf
            refine ⟨a, vs2, v, rfl, rfl, hH2, hz, ?_⟩
            refine q1 W1 _ _ (Le.refl _) (rep1.setOwn hs1 ⟨_, he⟩ hW2 ⟨vs2 ++ [v], upd_same, RepVs.append hr2 (.one rv), ?_⟩)
            rw [List.length_append, List.length_singleton]; omega
        | _ => exact q.elim
      | _ => exact q.elim
/-- x[i] = v, x a slot's own list -/
def sSetIx (i : Nat) (f k : EE) : SS := fun e g => match e[i]? with
  | some (.own (.lst xs)) => (f e g).toS e fun v g1 => (k e g1).toS e fun ix g2 => (match ix with
    | .int z => (match ixN xs.length z with
      | some j => .nx (e.set i (.own (.lst (xs.set j v)))) g2
      | none => .bad)
    | _ => .bad)
  | _ => .bad
theorem q_setIx (i : Nat) {n : Str} {y : Expr} {fk : EE} {p0 tpos : Pos} (h : QE X wx x fe) (h' : QE X wx y fk) (hN : X.N[i]? = some n := by rfl) (hv : Vis X.env.scope n := by first | exact Or.inl rfl | exact Or.inr (Or.inl rfl) | exact Or.inr (Or.inr rfl)) (hd : (n == ("__debug__" : Str)) = false := by decide) (hcd : (n == ("__classdict__" : Str)) = false := by decide)
    (ha : ∀ v, assign (.Subscript (.Name n p0) y tpos) X.env v = (do
      let ov ← holding [v] (eval (.Name n p0) X.env)
      let iv ← holding [v, ov] (eval y X.env)
      standAt tpos
      holding [v, ov, iv] (setItem ov iv v)
      release [v, ov, iv] []) := by intro _; rfl)
    (hs : swapsWithSole [.Subscript (.Name n p0) y tpos] x pos.line X.env = pure false := by rfl) (hw : swappedStores [.Subscript (.Name n p0) y tpos] x X.env = pure none := by rfl) (h1 : (assignEach [.Subscript (.Name n p0) y tpos] X.env).map (·.2) = [assign (.Subscript (.Name n p0) y tpos) X.env] := by rfl) :
    QS X wx (.Assign [.Subscript (.Name n p0) y tpos] x pos) (sSetIx i fe fk) :=
  PS.weak (ps_asg h (pg_sub (pe_var hN hv hd hcd) h' set_list ha) hs hw h1) fun D σ H ⟨R, W0, W, g, e, rep, q⟩ => by
    unfold sSetIx at q
    cases he : e[i]? with
    | none => rw [he] at q; exact q.elim
    | some s =>
      rw [he] at q
      cases s with
      | own o =>
        cases o with
        | lst xs =>
          obtain ⟨a, hs1, hW, _⟩ := rep.slot i _ he
          refine ⟨R, W0, W, g, e, rep, (OcS.of q).imp fun v W1 g1 H1 l1 rep1 q1 u ru => ?_⟩
          refine ⟨.ref a, hs1, R, W0, W1, g1, e, rep1, (OcS.of q1).imp fun ix W2 g2 H2 l2 rep2 q2 w rw' => ?_⟩
          obtain ⟨a', hs2, hW2, vs2, hH2, hr2, hl2⟩ := rep2.slot i _ he
          rw [hs1] at hs2; cases hs2
          cases ix with
          | int z =>
            simp only at q2
            cases hj : ixN xs.length z with
            | none => rw [hj] at q2; exact q2.elim
            | some j =>
              rw [hj] at q2
              refine ⟨a, vs2, z, j, rfl, rw', hH2, by rw [hr2.length]; exact hj, ?_⟩
              refine q2 W2 _ _ (Le.refl _) (rep2.setOwn hs1 ⟨_, he⟩ hW2 ⟨vs2.set j u, upd_same, RepVs.set hr2 (RepV.mono l2 _ _ ru), ?_⟩)
              rw [List.length_set]; exact hl2
          | _ => exact q2.elim
        | _ => exact q.elim
      | _ => exact q.elim
/-- o[i] = v, o a list of the store -/
def sSetG (f fo k : EE) : SS := fun e g => (f e g).toS e fun v g1 => (fo e g1).toS e fun o g2 => (k e g2).toS e fun ix g3 => match o, ix with
  | .ref n, .int z => (match g3[n]? with
    | some (.lst xs) => (match ixN xs.length z with
      | some j => .nx e (g3.set n (.lst (xs.set j v)))
      | none => .bad)
    | _ => .bad)
  | _, _ => .bad
theorem q_setG {o y : Expr} {fo fk : EE} {tpos : Pos} (h : QE X wx x fe) (ho : QE X wx o fo) (h' : QE X wx y fk)
    (ha : ∀ v, assign (.Subscript o y tpos) X.env v = (do
      let ov ← holding [v] (eval o X.env)
      let iv ← holding [v, ov] (eval y X.env)
      standAt tpos
      holding [v, ov, iv] (setItem ov iv v)
      release [v, ov, iv] []) := by intro _; rfl)
    (hs : swapsWithSole [.Subscript o y tpos] x pos.line X.env = pure false := by rfl) (hw : swappedStores [.Subscript o y tpos] x X.env = pure none := by rfl) (h1 : (assignEach [.Subscript o y tpos] X.env).map (·.2) = [assign (.Subscript o y tpos) X.env] := by rfl) :
    QS X wx (.Assign [.Subscript o y tpos] x pos) (sSetG fe fo fk) :=
  PS.weak (ps_asg h (pg_sub ho h' set_list ha) hs hw h1) fun D σ H ⟨R, W0, W, g, e, rep, q⟩ => by
    refine ⟨R, W0, W, g, e, rep, (OcS.of q).imp fun v W1 g1 H1 l1 rep1 q1 u ru => ?_⟩
    refine ⟨R, W0, W1, g1, e, rep1, (OcS.of q1).imp fun ov W2 g2 H2 l2 rep2 q2 w rw' => ?_⟩
    refine ⟨R, W0, W2, g2, e, rep2, (OcS.of q2).imp fun ix W3 g3 H3 l3 rep3 q3 w3 rw3 => ?_⟩
    cases ov with
    | ref n =>
      cases ix with
      | int z =>
        obtain ⟨a, rfl, hW⟩ := rw'
        have hW3 := l3 _ _ hW (fun _ z => by cases z)
        obtain ⟨_, ob, hg, hob⟩ := rep3.gl a n hW3
        simp only [hg] at q3
        cases ob with
        | lst xs =>
          simp only at q3
          cases hj : ixN xs.length z with
          | none => rw [hj] at q3; exact q3.elim
          | some j =>
            rw [hj] at q3
            obtain ⟨vs2, hH2, hr2, hl2⟩ := hob
            refine ⟨a, vs2, z, j, rfl, rw3, hH2, by rw [hr2.length]; exact hj, ?_⟩
            refine q3 W3 _ _ (Le.refl _) (rep3.setGl hW3 ⟨vs2.set j u, upd_same, RepVs.set hr2 (RepV.mono (l2.trans l3) _ _ ru), ?_⟩)
            rw [List.length_set]; exact hl2
        | _ => exact q3.elim
      | _ => exact q3.elim
    | _ => cases ix <;> exact q3.elim
end
end
end Q

namespace Q
open PySem PySem.Spec PyProof.Rows L2

/-! ## tuple * int, all ways -/
theorem mulT_same (l : Addr) (items : Array Value) (n : Nat) (dd : Option Addr) (sl : Array (Option Value)) (x : Int) (u : Tok) (c0 : (decide (x < -(2 ^ 63)) || decide (x ≥ 2 ^ 63)) = false) (c1 : (items.isEmpty || x == 1) = true) :
    Meets (Builtin.«tuple.__mul__» ⟨[.ref l, .int x u], []⟩) (fun _ R s => s.heap.get? l = some { cls := .type "tuple", dict := dd, data := .seq items n, slots := sl } ∧ R (.ok (.ret (Value.ref l))) s) :=
  .of_wp fun prog w A R s h => by
    obtain ⟨hp, g, d, tk, os⟩ := s
    obtain ⟨hl, h⟩ := h
    have f1 := AutoSeq1.idx_int
    wp_walk using wpAny_loadPart' hl
    repeat (first
      | (refine wpAny_ite_false (decide_eq_false (by rw [c0]; exact Bool.false_ne_true)) ?_; wp_walk using wpAny_loadPart' hl)
      | (refine wpAny_ite_true (decide_eq_true c1) ?_; wp_walk using wpAny_loadPart' hl))
    exact ⟨_, rfl, h⟩
theorem mulT_nil (l : Addr) (items : Array Value) (n : Nat) (dd : Option Addr) (sl : Array (Option Value)) (x : Int) (u : Tok) (c0 : (decide (x < -(2 ^ 63)) || decide (x ≥ 2 ^ 63)) = false) (c1 : (items.isEmpty || x == 1) = false) (c2 : (decide (x ≤ 0) || items.isEmpty) = true) :
    Meets (Builtin.«tuple.__mul__» ⟨[.ref l, .int x u], []⟩) (fun _ R s => s.heap.get? l = some { cls := .type "tuple", dict := dd, data := .seq items n, slots := sl } ∧
      R (.ok (.ret (Value.ref s.heap.objs.size))) { s with heap := s.heap.push { cls := Value.type "tuple", data := Data.seq #[] }, toks := s.toks }) :=
  .of_wp fun prog w A R s h => by
    obtain ⟨hp, g, d, tk, os⟩ := s
    obtain ⟨hl, h⟩ := h
    have f1 := AutoSeq1.idx_int
    wp_walk using wpAny_loadPart' hl
    repeat (first
      | (refine wpAny_ite_false (decide_eq_false (by rw [c0]; exact Bool.false_ne_true)) ?_; wp_walk using wpAny_loadPart' hl)
      | (refine wpAny_ite_false (decide_eq_false (by rw [c1]; exact Bool.false_ne_true)) ?_; wp_walk using wpAny_loadPart' hl)
      | (refine wpAny_ite_true (decide_eq_true c2) ?_; wp_walk using wpAny_loadPart' hl))
    exact ⟨_, rfl, h⟩
end Q

namespace Q
open PySem PySem.Spec PyProof.Rows L2
section
variable {X : Cx}
def rMulT (K : PySem.W.Frag) : R2 := fun x y H Q => ∃ l k xs, x = .ref l ∧ y = .int k ∧ SqT K H l xs ∧ (-1000 ≤ k ∧ k ≤ 1000 ∧ xs.length ≤ 1000) ∧
  (xs = [] ∨ k = 1 → Q (.ref l) H) ∧ (xs ≠ [] → k ≤ 0 → ∀ p, H p = none → Q (.ref p) (upd H p (.tup []))) ∧ (xs ≠ [] → 2 ≤ k → ∀ p, H p = none → Q (.ref p) (upd H p (.tup (List.replicate k.toNat xs).flatten)))
theorem op_mulT : OpR X (binaryOp .Mult) (rMulT X.K) := by
  intro pins s σ H x y v u Q I rx ry h
  obtain ⟨l, k, xs, rfl, rfl, hT, ⟨b1, b2, b3⟩, q1, q2, q3⟩ := h
  by_cases hc : xs ≠ [] ∧ 2 ≤ k
  · exact op_repT pins s σ H _ _ v u Q I rx ry ⟨l, k, xs, rfl, rfl, hT, hc.1, hc.2, b2, b3, q3 hc.1 hc.2⟩
  · cases rx
    obtain ⟨t, rfl⟩ := ry
    obtain ⟨its, r, ⟨⟨cls, dd, data, sl⟩, ho, hcl, n, hd⟩, hs⟩ := I.tuple hT
    simp only at hcl hd
    subst hcl hd
    have c0 : (decide (k < -(2 ^ 63)) || decide (k ≥ 2 ^ 63)) = false := by
      rw [decide_eq_false (by omega), decide_eq_false (by omega)] <;> rfl
    have go : ∀ {R : Result → Shared → Prop} {Q' : Value → Shared → Prop}, Meets (Builtin.«tuple.__mul__» ⟨[.ref l, .int k t], []⟩) (fun _ R s => s.heap.get? l = some { cls := .type "tuple", dict := dd, data := .seq its.toArray n, slots := sl } ∧ True) → True := fun _ => trivial
    have he : its.toArray.isEmpty = decide (xs = []) := by
      cases r with
      | nil => rfl
      | cons _ _ => simp
    by_cases h1 : xs = [] ∨ k = 1
    · have c1 : (its.toArray.isEmpty || k == 1) = true := by
        rw [he]; rcases h1 with h1 | h1 <;> simp [h1]
      exact wpAny_binaryOp_repeat_ref (T := "tuple") (U := "int") (by decide) ⟨_, ho, rfl⟩ (fun s' => typeIs_int s' k t) noFill_tuple_mul PySem.F.fills_int_mul PySem.F.slot_int_rmul repeat_tuple PySem.F.slot_int_index.lookup
        (call_meets PySem.F.slot_int_rmul (typeIs_int s k t) PySem.F.entry_int_rmul (PySem.F.args_int_rmul_2 _ _) (int_rmul_tuple k t l its.toArray n dd sl)
          ⟨ho, rfl, ⟨_, ho, rfl⟩, call_meets PySem.F.slot_tuple_mul ⟨_, ho, rfl⟩ PySem.F.entry_tuple_mul (PySem.F.args_tuple_mul_2 _ _) (mulT_same l its.toArray n dd sl k t c0 c1) ⟨ho, ⟨.ref l, H, I, rfl, q1 h1⟩⟩⟩)
    · have hx : xs ≠ [] := fun z => h1 (.inl z)
      have hk : k ≤ 0 := by
        have : ¬ 2 ≤ k := fun z => hc ⟨hx, z⟩
        have : k ≠ 1 := fun z => h1 (.inr z)
        omega
      have c1 : (its.toArray.isEmpty || k == 1) = false := by
        rw [he, decide_eq_false hx, Bool.false_or]; exact beq_eq_false_iff_ne.mpr (by omega)
      have c2 : (decide (k ≤ 0) || its.toArray.isEmpty) = true := by rw [decide_eq_true hk]; rfl
      refine wpAny_binaryOp_repeat_ref (T := "tuple") (U := "int") (by decide) ⟨_, ho, rfl⟩ (fun s' => typeIs_int s' k t) noFill_tuple_mul PySem.F.fills_int_mul PySem.F.slot_int_rmul repeat_tuple PySem.F.slot_int_index.lookup
        (call_meets PySem.F.slot_int_rmul (typeIs_int s k t) PySem.F.entry_int_rmul (PySem.F.args_int_rmul_2 _ _) (int_rmul_tuple k t l its.toArray n dd sl)
          ⟨ho, rfl, ⟨_, ho, rfl⟩, call_meets PySem.F.slot_tuple_mul ⟨_, ho, rfl⟩ PySem.F.entry_tuple_mul (PySem.F.args_tuple_mul_2 _ _) (mulT_nil l its.toArray n dd sl k t c0 c1 c2) ⟨ho, ?_⟩⟩)
      refine ⟨.ref s.heap.objs.size, _, I.laid (t' := s.toks) (o := .tup []) (fun b ob q => Heap.get?_push_of_some _ q) (Nat.le_refl _) ?_, rfl, q2 hx hk _ (I.hok.fresh (Nat.le_refl _))⟩
      exact ⟨Nat.zero_le _, [], .nil, IsTup.new _ _⟩
end

end Q
namespace Q
open PySem L2
/-! ## sequences, data -/
def asSeq (e : Env) (g : G) : PV → Option (Bool × List PV)
  | .tup xs => some (false, xs)
  | .lst xs => some (true, xs)
  | .scr xs => some (true, xs)
  | .bor i => match e[i]? with
    | some (.own (.lst xs)) => some (true, xs)
    | _ => none
  | .ref n => match g[n]? with
    | some (.lst xs) => some (true, xs)
    | _ => none
  | _ => none
/-- a list that may be tracked -/
def asLst (e : Env) (g : G) : PV → Option (List PV)
  | .lst xs => some xs
  | .bor i => match e[i]? with
    | some (.own (.lst xs)) => some xs
    | _ => none
  | .ref n => match g[n]? with
    | some (.lst xs) => some xs
    | _ => none
  | _ => none
/-- a borrowed list, a list of the store, as the list that it is -/
def top (e : Env) (g : G) (p : PV) : PV := match p with
  | .bor i => match e[i]? with
    | some (.own (.lst xs)) => .lst xs
    | _ => p
  | .ref n => match g[n]? with
    | some (.lst xs) => .lst xs
    | _ => p
  | p => p
section
variable {K : PySem.W.Frag} {R : Hp} {W0 W : Wd} {g : G} {e : Env} {σ : St} {H : Hp} {p : PV} {v : V} {k : Bool} {xs : List PV}
theorem rd_sq {K : PySem.W.Frag} {H : Hp} {a : Addr} {vs : List V} (h : Rd H a (.lst vs)) : SqL K H a vs := .inl h
theorem asSeq_rep (rep : Rep K R W0 W g e σ H) (r : RepT K W e σ p v) (h : asSeq e g p = some (k, xs)) : ∃ a vs, v = .ref a ∧ SqX K H k a vs ∧ RepVs K W xs vs ∧ vs.length ≤ sizeLine := by
  cases p with
  | tup ys =>
    cases h
    obtain ⟨a, vs, h1, h2, h3⟩ := r
    obtain ⟨h4, h5⟩ := h2.sq rep.toRepG
    exact ⟨a, vs, h1, h4, h3, h5⟩
  | lst ys =>
    cases h
    obtain ⟨a, vs, h1, h2, h3⟩ := r
    obtain ⟨h4, h5⟩ := rep.fz a true vs h2
    exact ⟨a, vs, h1, SqL.of h4, h3, h5⟩
  | scr ys =>
    cases h
    obtain ⟨a, vs, h1, h2, h3⟩ := r
    obtain ⟨h4, h5⟩ := h2.sq rep.toRepG
    exact ⟨a, vs, h1, h4, h3, h5⟩
  | bor i =>
    obtain ⟨⟨o, he⟩, hs⟩ := r
    simp only [asSeq, he] at h
    cases o with
    | lst ys =>
      cases h
      obtain ⟨a, h1, h2, vs, h3, h4, h5⟩ := rep.slot i _ he
      rw [hs] at h1; cases h1
      exact ⟨a, vs, rfl, SqL.of h3, h4, h5⟩
    | _ => cases h
  | ref n =>
    obtain ⟨a, rfl, hW⟩ := r
    obtain ⟨_, o, hg, ho⟩ := rep.gl a n hW
    simp only [asSeq, hg] at h
    cases o with
    | lst ys =>
      cases h
      obtain ⟨vs, h3, h4, h5⟩ := ho
      exact ⟨a, vs, rfl, SqL.of h3, h4, h5⟩
    | _ => cases h
  | _ => cases h
theorem asLst_rep (rep : Rep K R W0 W g e σ H) (r : RepT K W e σ p v) (h : asLst e g p = some xs) : ∃ a vs, v = .ref a ∧ H a = some (.lst vs) ∧ RepVs K W xs vs ∧ vs.length ≤ sizeLine := by
  cases p with
  | lst ys =>
    cases h
    obtain ⟨a, vs, h1, h2, h3⟩ := r
    obtain ⟨h4, h5⟩ := rep.fz a true vs h2
    exact ⟨a, vs, h1, h4, h3, h5⟩
  | bor i =>
    obtain ⟨⟨o, he⟩, hs⟩ := r
    simp only [asLst, he] at h
    cases o with
    | lst ys =>
      cases h
      obtain ⟨a, h1, h2, vs, h3, h4, h5⟩ := rep.slot i _ he
      rw [hs] at h1; cases h1
      exact ⟨a, vs, rfl, h3, h4, h5⟩
    | _ => cases h
  | ref n =>
    obtain ⟨a, rfl, hW⟩ := r
    obtain ⟨_, o, hg, ho⟩ := rep.gl a n hW
    simp only [asLst, hg] at h
    cases o with
    | lst ys =>
      cases h
      obtain ⟨vs, h3, h4, h5⟩ := ho
      exact ⟨a, vs, rfl, h3, h4, h5⟩
    | _ => cases h
  | _ => cases h
end

mutual
/-- data without references, at most so deep -/
def pureD : Nat → PV → Bool
  | _, .non => true
  | _, .bl _ => true
  | _, .int _ => true
  | _, .str _ => true
  | n + 1, .tup xs => pureDs n xs
  | n + 1, .lst xs => pureDs n xs
  | _, _ => false
def pureDs : Nat → List PV → Bool
  | _, [] => true
  | n, x :: xs => pureD n x && pureDs n xs
end
mutual
def toD : PV → PyData
  | .non => .none
  | .bl b => .bool b
  | .int i => .int i
  | .str x => .str x
  | .tup xs => .tuple (toDs xs)
  | .lst xs => .list (toDs xs)
  | _ => .none
def toDs : List PV → List PyData
  | [] => []
  | x :: xs => toD x :: toDs xs
end
theorem toDs_map : ∀ xs : List PV, toDs xs = xs.map toD
  | [] => rfl
  | x :: xs => by unfold toDs; rw [toDs_map xs]; rfl
theorem pureDs_all (n : Nat) : ∀ xs : List PV, pureDs n xs = xs.all (pureD n)
  | [] => by unfold pureDs; rfl
  | x :: xs => by unfold pureDs; rw [pureDs_all n xs]; rfl
mutual
theorem toD_depth : ∀ (n : Nat) (p : PV), pureD n p = true → (toD p).depth ≤ n
  | n, .non, _ => Nat.zero_le _
  | n, .bl _, _ => Nat.zero_le _
  | n, .int _, _ => Nat.zero_le _
  | n, .str _, _ => Nat.zero_le _
  | n + 1, .tup xs, h => Nat.succ_le_succ (toDs_depth n xs (by unfold pureD at h; exact h))
  | n + 1, .lst xs, h => Nat.succ_le_succ (toDs_depth n xs (by unfold pureD at h; exact h))
  | 0, .tup xs, h => by unfold pureD at h; cases h
  | 0, .lst xs, h => by unfold pureD at h; cases h
  | n, .scr _, h => by unfold pureD at h; cases h
  | n, .ref _, h => by unfold pureD at h; cases h
  | n, .bor _, h => by unfold pureD at h; cases h
  | n, .ext _, h => by unfold pureD at h; cases h
theorem toDs_depth : ∀ (n : Nat) (ps : List PV), pureDs n ps = true → PyData.depthAll (toDs ps) ≤ n
  | n, [], _ => Nat.zero_le _
  | n, x :: xs, h => by
    unfold pureDs at h
    rw [Bool.and_eq_true] at h
    exact Nat.max_le.mpr ⟨toD_depth n x h.1, toDs_depth n xs h.2⟩
end
mutual
theorem toD_plain : ∀ (n : Nat) (p : PV), pureD n p = true → (toD p).plain = true
  | n, .non, _ => rfl
  | n, .bl _, _ => rfl
  | n, .int _, _ => rfl
  | n, .str _, _ => rfl
  | n + 1, .tup xs, h => by unfold toD PyData.plain; exact toDs_plain n xs (by unfold pureD at h; exact h)
  | n + 1, .lst xs, h => by unfold toD PyData.plain; exact toDs_plain n xs (by unfold pureD at h; exact h)
  | 0, .tup xs, h => by unfold pureD at h; cases h
  | 0, .lst xs, h => by unfold pureD at h; cases h
  | n, .scr _, h => rfl
  | n, .ref _, h => rfl
  | n, .bor _, h => rfl
  | n, .ext _, h => rfl
theorem toDs_plain : ∀ (n : Nat) (ps : List PV), pureDs n ps = true → PyData.plainAll (toDs ps) = true
  | n, [], _ => rfl
  | n, x :: xs, h => by
    unfold pureDs at h
    rw [Bool.and_eq_true] at h
    unfold toDs PyData.plainAll
    rw [toD_plain n x h.1, toDs_plain n xs h.2]; rfl
end
section
variable {K : PySem.W.Frag} {R : Hp} {W0 W : Wd} {g : G} {e : Env} {σ : St} {H : Hp}
mutual
theorem RepV.dp (rep : RepG K R W0 W g H) : ∀ (n : Nat) (p : PV) (v : V), pureD n p = true → RepV K W p v → Dp K H v (toD p)
  | n, .non, v, _, r => by obtain rfl : v = .non := r; exact .non
  | n, .bl b, v, _, r => by obtain rfl : v = .bl b := r; exact .bl b
  | n, .int i, v, _, r => by obtain rfl : v = .int i := r; exact .int i
  | n, .str x, v, _, r => by obtain rfl : v = .str x := r; exact .str x
  | n + 1, .tup xs, v, h, ⟨a, vs, e, i, rs⟩ => by
    subst e; unfold toD
    exact .tup (i.sq rep).1 (RepVs.dp rep n xs vs (by unfold pureD at h; exact h) rs)
  | n + 1, .lst xs, v, h, ⟨a, vs, e, i, rs⟩ => by
    subst e; unfold toD
    exact .lst (SqL.of (rep.fz a true vs i).1) (RepVs.dp rep n xs vs (by unfold pureD at h; exact h) rs)
  | 0, .tup xs, v, h, _ => by unfold pureD at h; cases h
  | 0, .lst xs, v, h, _ => by unfold pureD at h; cases h
  | n, .scr _, v, h, _ => by unfold pureD at h; cases h
  | n, .ref _, v, h, _ => by unfold pureD at h; cases h
  | n, .bor _, v, h, _ => by unfold pureD at h; cases h
  | n, .ext _, v, h, _ => by unfold pureD at h; cases h
theorem RepVs.dp (rep : RepG K R W0 W g H) : ∀ (n : Nat) (ps : List PV) (vs : List V), pureDs n ps = true → RepVs K W ps vs → DpAll K H vs (toDs ps)
  | n, [], vs, _, r => by obtain rfl : vs = [] := r; exact .nil
  | n, x :: xs, vs, h, ⟨w, ws, e, r, rs⟩ => by
    subst e
    unfold pureDs at h
    rw [Bool.and_eq_true] at h
    exact .cons (RepV.dp rep n x w h.1 r) (RepVs.dp rep n xs ws h.2 rs)
end
theorem RepT.dp (rep : Rep K R W0 W g e σ H) {n : Nat} {p : PV} {v : V} (h : pureD n (top e g p) = true) (r : RepT K W e σ p v) : Dp K H v (toD (top e g p)) := by
  cases p with
  | bor i =>
    obtain ⟨⟨o, he⟩, hs⟩ := r
    simp only [top, he] at h ⊢
    cases o with
    | lst ys =>
      obtain ⟨a, h1, h2, vs, h3, h4, h5⟩ := rep.slot i _ he
      rw [hs] at h1; cases h1
      cases n with
      | zero => unfold pureD at h; cases h
      | succ n => unfold toD; exact .lst (SqL.of h3) (RepVs.dp rep.toRepG n ys vs (by unfold pureD at h; exact h) h4)
    | _ => unfold pureD at h; cases h
  | ref n' =>
    obtain ⟨a, rfl, hW⟩ := r
    obtain ⟨_, o, hg, ho⟩ := rep.gl a n' hW
    simp only [top, hg] at h ⊢
    cases o with
    | lst ys =>
      obtain ⟨vs, h3, h4, h5⟩ := ho
      cases n with
      | zero => unfold pureD at h; cases h
      | succ n => unfold toD; exact .lst (SqL.of h3) (RepVs.dp rep.toRepG n ys vs (by unfold pureD at h; exact h) h4)
    | _ => unfold pureD at h; cases h
  | _ => exact RepV.dp rep.toRepG n _ v h r
end
mutual
def eqvP : PV → PV → Bool
  | .non, .non => true
  | .bl a, .bl b => a == b
  | .bl a, .int j => (if a then 1 else 0) == j
  | .int i, .bl b => i == (if b then 1 else 0)
  | .int i, .int j => i == j
  | .str x, .str y => x == y
  | .lst xs, .lst ys => eqvPs xs ys
  | .tup xs, .tup ys => eqvPs xs ys
  | _, _ => false
def eqvPs : List PV → List PV → Bool
  | [], [] => true
  | x :: xs, y :: ys => eqvP x y && eqvPs xs ys
  | _, _ => false
end
mutual
theorem eqvP_ok : ∀ (n m : Nat) (p q : PV), pureD n p = true → pureD m q = true → eqvP p q = PyData.eqv (toD p) (toD q)
  | n, m, p, q, hp, hq => by
    cases p <;> cases q <;> first
      | rfl
      | (unfold pureD at hp; cases hp; done)
      | (unfold pureD at hq; cases hq; done)
      | skip
    · rename_i xs ys
      cases n with
      | zero => unfold pureD at hp; cases hp
      | succ n =>
        cases m with
        | zero => unfold pureD at hq; cases hq
        | succ m =>
          unfold eqvP toD PyData.eqv
          exact eqvPs_ok n m xs ys (by unfold pureD at hp; exact hp) (by unfold pureD at hq; exact hq)
    · rename_i xs ys
      cases n with
      | zero => unfold pureD at hp; cases hp
      | succ n =>
        cases m with
        | zero => unfold pureD at hq; cases hq
        | succ m =>
          unfold eqvP toD PyData.eqv
          exact eqvPs_ok n m xs ys (by unfold pureD at hp; exact hp) (by unfold pureD at hq; exact hq)
theorem eqvPs_ok : ∀ (n m : Nat) (ps qs : List PV), pureDs n ps = true → pureDs m qs = true → eqvPs ps qs = PyData.eqvAll (toDs ps) (toDs qs)
  | n, m, [], [], _, _ => rfl
  | n, m, [], _ :: _, _, _ => rfl
  | n, m, _ :: _, [], _, _ => rfl
  | n, m, x :: xs, y :: ys, h, k => by
    unfold pureDs at h k
    rw [Bool.and_eq_true] at h k
    unfold eqvPs toDs PyData.eqvAll
    rw [eqvP_ok n m x y h.1 k.1, eqvPs_ok n m xs ys h.2 k.2]
end
end Q

namespace Q
open PySem L2
section
variable {X : Cx}

/-! ## + - * // % ** -/
def rAddQ (K : PySem.W.Frag) : R2 := fun x y H Q => rI0 (fun i j => .int (i + j)) x y H Q ∨ (∃ i j, x = .str i ∧ y = .str j ∧ i.length + j.length ≤ sizeLine ∧ Q (.str (i ++ j)) H) ∨ rCatA K x y H Q ∨ rCat x y H Q
theorem o_add : OpR X (binaryOp .Add) (rAddQ X.K) := OpR.or op_add (OpR.or op_add_str (OpR.or op_catA op_cat))
def opAdd (e : Env) (g : G) (x y : PV) : Option PV := match x, y with
  | .int i, .int j => some (.int (i + j))
  | .str a, .str b => if fits (a.length + b.length) then some (.str (a ++ b)) else none
  | .tup xs, .tup ys => if fits (xs.length + ys.length) then some (.tup (xs ++ ys)) else none
  | p, q => match asLst e g p, asLst e g q with
    | some xs, some ys => if fits (xs.length + ys.length) then some (.lst (xs ++ ys)) else none
    | _, _ => none
theorem add_lst {K : PySem.W.Frag} {R : Hp} {W0 W : Wd} {g : G} {e : Env} {σ : St} {H : Hp} {x y : PV} {v u : V} {Q : VK} {xs ys : List PV} (rep : Rep K R W0 W g e σ H) (rx : RepT K W e σ x v) (ry : RepT K W e σ y u) (hx : asLst e g x = some xs) (hy : asLst e g y = some ys)
    (hf : fits (xs.length + ys.length) = true) (k : ∀ p vs, H p = none → vs.length ≤ sizeLine → RepVs K W (xs ++ ys) vs → Q (.ref p) (upd H p (.lst vs))) : rCat v u H Q := by
  obtain ⟨a, vs, rfl, h1, h2, h3⟩ := asLst_rep rep rx hx
  obtain ⟨b, us, rfl, k1, k2, k3⟩ := asLst_rep rep ry hy
  have hz : vs.length + us.length ≤ sizeLine := by rw [h2.length, k2.length]; exact fits_le hf
  exact ⟨a, b, vs, us, rfl, rfl, h1, k1, hz, fun p hp => k p _ hp (by rw [List.length_append]; exact hz) (RepVs.append h2 k2)⟩
theorem s_add {K : PySem.W.Frag} : OpS K (rAddQ K) opAdd := by
  intro R W0 W g e σ H x y z v u Q rep rx ry h k
  have lst : ∀ {xs ys : List PV}, asLst e g x = some xs → asLst e g y = some ys → (if fits (xs.length + ys.length) then some (PV.lst (xs ++ ys)) else none) = some z → rAddQ K v u H Q := by
    intro xs ys hx hy hz
    split at hz
    · rename_i hf
      cases hz
      refine .inr (.inr (.inr (add_lst rep rx ry hx hy hf fun p vs hp hl hr => ?_)))
      obtain ⟨r2, l2⟩ := rep.newFz (k := true) hp hl
      exact k _ _ _ l2 r2 ⟨p, vs, rfl, putW_same, RepVs.mono l2 _ _ hr⟩
    · cases hz
  unfold opAdd at h
  split at h
  · cases h
    obtain rfl := rx
    obtain rfl := ry
    exact .inl ⟨_, _, rfl, rfl, k W H _ (Le.refl _) rep rfl⟩
  · split at h
    · rename_i hf
      cases h
      obtain rfl := rx
      obtain rfl := ry
      exact .inr (.inl ⟨_, _, rfl, rfl, fits_le hf, k W H _ (Le.refl _) rep rfl⟩)
    · cases h
  · rename_i xs ys
    split at h
    · rename_i hf
      cases h
      obtain ⟨a, vs, rfl, h1, h2⟩ := rx
      obtain ⟨b, us, rfl, k1, k2⟩ := ry
      have hz : vs.length + us.length ≤ sizeLine := by rw [h2.length, k2.length]; exact fits_le hf
      refine .inr (.inr (.inl ⟨a, b, vs, us, rfl, rfl, (h1.sq rep.toRepG).1, (k1.sq rep.toRepG).1, hz, fun e0 => ?_, fun n0 e0 => ?_, fun n0 n1 p hp => ?_⟩))
      · subst e0
        obtain rfl : xs = [] := List.eq_nil_of_length_eq_zero h2.length.symm
        exact k W H _ (Le.refl _) rep ⟨b, us, rfl, k1, k2⟩
      · subst e0
        obtain rfl : ys = [] := List.eq_nil_of_length_eq_zero k2.length.symm
        rw [List.append_nil] at k
        exact k W H _ (Le.refl _) rep ⟨a, vs, rfl, h1, h2⟩
      · obtain ⟨r2, l2⟩ := rep.newFz (k := false) (vs := vs ++ us) hp (by rw [List.length_append]; exact hz)
        exact k _ _ _ l2 r2 ⟨p, _, rfl, .inl putW_same, RepVs.mono l2 _ _ (RepVs.append h2 k2)⟩
    · cases h
  · split at h
    · rename_i hx hy
      exact lst hx hy h
    · cases h
def opAddL (e : Env) (g : G) (x y : PV) : Option (List PV) := match asLst e g x, asLst e g y with
  | some xs, some ys => if fits (xs.length + ys.length) then some (xs ++ ys) else none
  | _, _ => none
theorem f_add {K : PySem.W.Frag} : OpF K rCat opAddL := by
  intro R W0 W g e σ H x y z v u Q rep rx ry h k
  unfold opAddL at h
  split at h
  · rename_i xs ys hx hy
    split at h
    · rename_i hf
      cases h
      refine add_lst rep rx ry hx hy hf fun p vs hp hl hr => ?_
      obtain ⟨r2, hW, hR⟩ := rep.newLst (u := .lst vs) hp
      exact k W _ p vs (Le.refl _) r2 hW hR upd_same hr hl
    · cases h
  · cases h

def opSub (_ : Env) (_ : G) (x y : PV) : Option PV := match x, y with
  | .int i, .int j => some (.int (i - j))
  | _, _ => none
theorem s_sub {K : PySem.W.Frag} : OpS K (rI0 fun i j => .int (i - j)) opSub := by
  intro R W0 W g e σ H x y z v u Q rep rx ry h k
  unfold opSub at h
  split at h
  · cases h; obtain rfl := rx; obtain rfl := ry
    exact ⟨_, _, rfl, rfl, k W H _ (Le.refl _) rep rfl⟩
  · cases h
def small64 (i : Int) : Bool := decide (-18446744073709551616 < i) && decide (i < 18446744073709551616)
theorem small64_ok {i j : Int} (h : (small64 i || small64 j) = true) : CMul i j := by
  unfold small64 at h
  simp only [Bool.or_eq_true, Bool.and_eq_true, decide_eq_true_eq] at h
  unfold CMul
  have e : (2 : Int) ^ 64 = 18446744073709551616 := by decide
  rw [e]
  exact h
def rMulQ (K : PySem.W.Frag) : R2 := fun x y H Q => rI CMul (fun i j => .int (i * j)) x y H Q ∨ rMulT K x y H Q ∨ rRep x y H Q
theorem o_mul : OpR X (binaryOp .Mult) (rMulQ X.K) := OpR.or op_mul (OpR.or op_mulT op_rep)
def opMul (e : Env) (g : G) (x y : PV) : Option PV := match x, y with
  | .int i, .int j => if small64 i || small64 j then some (.int (i * j)) else none
  | .tup xs, .int k => if decide (-1000 ≤ k) && decide (k ≤ 1000) && Nat.ble xs.length 1000 then some (.tup (List.replicate k.toNat xs).flatten) else none
  | p, .int k => match asLst e g p with
    | some xs => if decide (-1000 ≤ k) && decide (k ≤ 1000) && Nat.ble xs.length 1000 then some (.lst (List.replicate k.toNat xs).flatten) else none
    | none => none
  | _, _ => none
theorem rep_len (xs : List V) (k : Int) (h1 : k ≤ 1000) (h2 : xs.length ≤ 1000) : (List.replicate k.toNat xs).flatten.length ≤ sizeLine ∧ xs.length * k.toNat ≤ sizeLine := by
  have a1 : xs.length * k.toNat ≤ 1000 * 1000 := Nat.mul_le_mul h2 (by omega)
  have a2 : (List.replicate k.toNat xs).flatten.length = k.toNat * xs.length := by simp
  rw [sizeLine_eq, a2, Nat.mul_comm]
  omega
theorem rep_lst {K : PySem.W.Frag} {R : Hp} {W0 W : Wd} {g : G} {e : Env} {σ : St} {H : Hp} {x : PV} {v : V} {Q : VK} {xs : List PV} {n : Int} (rep : Rep K R W0 W g e σ H) (rx : RepT K W e σ x v) (hx : asLst e g x = some xs)
    (hc : (decide (-1000 ≤ n) && decide (n ≤ 1000) && Nat.ble xs.length 1000) = true) (k : ∀ p vs, H p = none → vs.length ≤ sizeLine → RepVs K W (List.replicate n.toNat xs).flatten vs → Q (.ref p) (upd H p (.lst vs))) : rRep v (.int n) H Q := by
  simp only [Bool.and_eq_true, decide_eq_true_eq] at hc
  have hb := Nat.le_of_ble_eq_true hc.2
  obtain ⟨a, vs, rfl, h1, h2, h3⟩ := asLst_rep rep rx hx
  obtain ⟨l1, l2⟩ := rep_len vs n hc.1.2 (by rw [h2.length]; exact hb)
  exact ⟨a, n, vs, rfl, rfl, h1, by omega, by omega, l2, fun p hp => k p _ hp l1 (RepVs.flatten_rep h2 _)⟩
theorem s_mul {K : PySem.W.Frag} : OpS K (rMulQ K) opMul := by
  intro R W0 W g e σ H x y z v u Q rep rx ry h k
  unfold opMul at h
  split at h
  · split at h
    · rename_i hc
      cases h; obtain rfl := rx; obtain rfl := ry
      exact .inl ⟨_, _, rfl, rfl, small64_ok hc, k W H _ (Le.refl _) rep rfl⟩
    · cases h
  · rename_i xs n
    split at h
    · rename_i hc
      cases h; obtain rfl := ry
      simp only [Bool.and_eq_true, decide_eq_true_eq] at hc
      have hb := Nat.le_of_ble_eq_true hc.2
      obtain ⟨a, vs, rfl, h1, h2⟩ := rx
      have hl := h2.length
      refine .inr (.inl ⟨a, n, vs, rfl, rfl, (h1.sq rep.toRepG).1, ⟨hc.1.1, hc.1.2, by omega⟩, fun c => ?_, fun n0 c p hp => ?_, fun n0 c p hp => ?_⟩)
      · have e0 : (List.replicate n.toNat xs).flatten = xs := by
          rcases c with c | c
          · subst c
            obtain rfl : xs = [] := List.eq_nil_of_length_eq_zero hl.symm
            generalize n.toNat = m
            induction m with
            | zero => rfl
            | succ m ih => rw [List.replicate_succ, List.flatten_cons, ih]; rfl
          · subst c; simp
        rw [e0] at k
        exact k W H _ (Le.refl _) rep ⟨a, vs, rfl, h1, h2⟩
      · have e0 : (List.replicate n.toNat xs).flatten = [] := by
          have : n.toNat = 0 := by omega
          rw [this]; rfl
        rw [e0] at k
        obtain ⟨r2, l2⟩ := rep.newFz (k := false) (vs := []) hp (Nat.zero_le _)
        exact k _ _ _ l2 r2 ⟨p, _, rfl, .inl putW_same, rfl⟩
      · obtain ⟨l1, _⟩ := rep_len vs n hc.1.2 (by omega)
        obtain ⟨r2, l2⟩ := rep.newFz (k := false) hp l1
        exact k _ _ _ l2 r2 ⟨p, _, rfl, .inl putW_same, RepVs.mono l2 _ _ (RepVs.flatten_rep h2 _)⟩
    · cases h
  · split at h
    · rename_i hx
      split at h
      · rename_i hc
        cases h; obtain rfl := ry
        refine .inr (.inr (rep_lst rep rx hx hc fun p vs hp hl hr => ?_))
        obtain ⟨r2, l2⟩ := rep.newFz (k := true) hp hl
        exact k _ _ _ l2 r2 ⟨p, vs, rfl, putW_same, RepVs.mono l2 _ _ hr⟩
      · cases h
    · cases h
  · cases h
def opMulL (e : Env) (g : G) (x y : PV) : Option (List PV) := match y with
  | .int k => (match asLst e g x with
    | some xs => if decide (-1000 ≤ k) && decide (k ≤ 1000) && Nat.ble xs.length 1000 then some (List.replicate k.toNat xs).flatten else none
    | none => none)
  | _ => none
theorem f_mul {K : PySem.W.Frag} : OpF K rRep opMulL := by
  intro R W0 W g e σ H x y z v u Q rep rx ry h k
  unfold opMulL at h
  split at h
  · split at h
    · rename_i hx
      split at h
      · rename_i hc
        cases h; obtain rfl := ry
        refine rep_lst rep rx hx hc fun p vs hp hl hr => ?_
        obtain ⟨r2, hW, hR⟩ := rep.newLst (u := .lst vs) hp
        exact k W _ p vs (Le.refl _) r2 hW hR upd_same hr hl
      · cases h
    · cases h
  · cases h
def rDivQ : R2 := fun x y H Q => rI CDiv (fun i j => .int (i / j)) x y H Q ∨ rI CDivN (fun i j => .int (i.fdiv j)) x y H Q
theorem o_div : OpR X (binaryOp .FloorDiv) rDivQ := OpR.or op_fdiv op_fdivN
def opDiv (_ : Env) (_ : G) (x y : PV) : Option PV := match x, y with
  | .int i, .int j => if decide (0 < j) && decide (j < 1073741824) then some (.int (i / j)) else if decide (j < 0) && decide (-1073741824 < j) then some (.int (i.fdiv j)) else none
  | _, _ => none
theorem s_div {K : PySem.W.Frag} : OpS K rDivQ opDiv := by
  intro R W0 W g e σ H x y z v u Q rep rx ry h k
  unfold opDiv at h
  split at h
  · obtain rfl := rx; obtain rfl := ry
    split at h
    · rename_i hc
      cases h
      simp only [Bool.and_eq_true, decide_eq_true_eq] at hc
      exact .inl ⟨_, _, rfl, rfl, hc, k W H _ (Le.refl _) rep rfl⟩
    · split at h
      · rename_i hc
        cases h
        simp only [Bool.and_eq_true, decide_eq_true_eq] at hc
        exact .inr ⟨_, _, rfl, rfl, ⟨by omega, by omega⟩, k W H _ (Le.refl _) rep rfl⟩
      · cases h
  · cases h
def rModQ : R2 := fun x y H Q => rI (fun _ j => 0 < j) (fun i j => .int (i % j)) x y H Q ∨ rI (fun _ j => j ≠ 0) (fun i j => .int (i.fmod j)) x y H Q
theorem o_mod : OpR X (binaryOp .Mod) rModQ := OpR.or op_mod op_modN
def opMod (_ : Env) (_ : G) (x y : PV) : Option PV := match x, y with
  | .int i, .int j => if decide (0 < j) then some (.int (i % j)) else if decide (j < 0) then some (.int (i.fmod j)) else none
  | _, _ => none
theorem s_mod {K : PySem.W.Frag} : OpS K rModQ opMod := by
  intro R W0 W g e σ H x y z v u Q rep rx ry h k
  unfold opMod at h
  split at h
  · obtain rfl := rx; obtain rfl := ry
    split at h
    · rename_i hc
      cases h
      exact .inl ⟨_, _, rfl, rfl, of_decide_eq_true hc, k W H _ (Le.refl _) rep rfl⟩
    · split at h
      · rename_i hc
        cases h
        have := of_decide_eq_true hc
        exact .inr ⟨_, _, rfl, rfl, by omega, k W H _ (Le.refl _) rep rfl⟩
      · cases h
  · cases h
def opPow (_ : Env) (_ : G) (x y : PV) : Option PV := match x, y with
  | .int i, .int j => if decide (0 ≤ j) && decide (j ≤ 1000) && decide (i.natAbs < 18446744073709551616) then some (.int (i ^ j.toNat)) else none
  | _, _ => none
theorem s_pow {K : PySem.W.Frag} : OpS K (rI CPow fun i j => .int (i ^ j.toNat)) opPow := by
  intro R W0 W g e σ H x y z v u Q rep rx ry h k
  unfold opPow at h
  split at h
  · obtain rfl := rx; obtain rfl := ry
    split at h
    · rename_i hc
      cases h
      simp only [Bool.and_eq_true, decide_eq_true_eq] at hc
      exact ⟨_, _, rfl, rfl, ⟨hc.1.1, by omega, by have e : (2 : Nat) ^ 64 = 18446744073709551616 := by decide
                                                   rw [e]; exact hc.2⟩, k W H _ (Le.refl _) rep rfl⟩
    · cases h
  · cases h
def opNeg (_ : Env) (_ : G) (x : PV) : Option PV := match x with
  | .int i => some (.int (-i))
  | _ => none
theorem s_neg {K : PySem.W.Frag} : UnS K (rU fun i => .int (-i)) opNeg := by
  intro R W0 W g e σ H x z v Q rep rx h k
  unfold opNeg at h
  split at h
  · cases h; obtain rfl := rx
    exact ⟨_, rfl, k W H _ (Le.refl _) rep rfl⟩
  · cases h

/-! ## comparisons -/
/-- of ints -/
def opI (f : Int → Int → Bool) (_ : Env) (_ : G) (x y : PV) : Option PV := match x, y with
  | .int i, .int j => some (.bl (f i j))
  | _, _ => none
theorem s_I {K : PySem.W.Frag} {f : Int → Int → Bool} : OpS K (rI0 fun i j => .bl (f i j)) (opI f) := by
  intro R W0 W g e σ H x y z v u Q rep rx ry h k
  unfold opI at h
  split at h
  · cases h; obtain rfl := rx; obtain rfl := ry
    exact ⟨_, _, rfl, rfl, k W H _ (Le.refl _) rep rfl⟩
  · cases h
abbrev opLt := opI fun i j => decide (i < j)
abbrev opLe := opI fun i j => decide (i ≤ j)
abbrev opGt := opI fun i j => decide (j < i)
abbrev opGe := opI fun i j => decide (j ≤ i)
/-- == of data: the reading -/
def rEqP (K : PySem.W.Frag) (f : Bool → Bool) : R2 := fun x y H Q => ∃ d c, Dp K H x d ∧ Dp K H y c ∧ d.plain = true ∧ c.plain = true ∧ min d.depth c.depth ≤ 60 ∧ Q (.bl (f (PyData.eqv d c))) H
theorem o_eq (hu : X.A.units + 64 < cLine) : OpR X (compareOp .Eq) (rEqP X.K id) := by
  intro pins s σ H x y v u Q I rx ry ⟨d, c, hd, hc, p1, p2, hz, q⟩
  obtain ⟨as, r1⟩ := Dp.reads I d x v hd rx
  obtain ⟨bs, r2⟩ := Dp.reads I c y u hc ry
  exact PySem.SeqAt.eq_plain r1 r2 p1 p2 (by omega) ⟨.bl _, H, I, rfl, q⟩
theorem o_ne (hu : X.A.units + 64 < cLine) : OpR X (compareOp .NotEq) (rEqP X.K not) := by
  intro pins s σ H x y v u Q I rx ry ⟨d, c, hd, hc, p1, p2, hz, q⟩
  obtain ⟨as, r1⟩ := Dp.reads I d x v hd rx
  obtain ⟨bs, r2⟩ := Dp.reads I c y u hc ry
  exact PySem.SeqAt.ne_plain r1 r2 p1 p2 (by omega) ⟨.bl _, H, I, rfl, q⟩
def opEqB (f : Bool → Bool) (e : Env) (g : G) (x y : PV) : Option PV := if pureD 60 (top e g x) && pureD 60 (top e g y) then some (.bl (f (eqvP (top e g x) (top e g y)))) else none
abbrev opEq := opEqB id
abbrev opNe := opEqB not
theorem s_eqB {K : PySem.W.Frag} {f : Bool → Bool} : OpS K (rEqP K f) (opEqB f) := by
  intro R W0 W g e σ H x y z v u Q rep rx ry h k
  unfold opEqB at h
  split at h
  · rename_i hc
    rw [Bool.and_eq_true] at hc
    cases h
    have hz : min (toD (top e g x)).depth (toD (top e g y)).depth ≤ 60 := Nat.le_trans (Nat.min_le_left _ _) (toD_depth 60 _ hc.1)
    refine ⟨_, _, rx.dp rep hc.1, ry.dp rep hc.2, toD_plain 60 _ hc.1, toD_plain 60 _ hc.2, hz, ?_⟩
    rw [← eqvP_ok 60 60 _ _ hc.1 hc.2]
    exact k W H _ (Le.refl _) rep rfl
  · cases h
/-- in, not in a list or tuple of data -/
def rInP (K : PySem.W.Frag) (f : Bool → Bool) : R2 := fun x y H Q => ∃ d ds, Dp K H x d ∧ (Dp K H y (.list ds) ∨ Dp K H y (.tuple ds)) ∧ d.plain = true ∧ PyData.plainAll ds = true ∧ d.depth ≤ 60 ∧ Q (.bl (f (ds.any fun z => PyData.eqv z d))) H
theorem o_in (hu : X.A.units + 64 < cLine) : OpR X (compareOp .In) (rInP X.K id) := by
  intro pins s σ H x y v u Q I rx ry ⟨d, ds, hd, hc, p1, p2, hz, q⟩
  obtain ⟨as, r1⟩ := Dp.reads I d x v hd rx
  rcases hc with hc | hc
  · obtain ⟨bs, r2⟩ := Dp.reads I _ y u hc ry
    exact PySem.SeqAt.in_list_data r2 r1 p2 p1 (by omega) ⟨.bl _, H, I, rfl, q⟩
  · obtain ⟨bs, r2⟩ := Dp.reads I _ y u hc ry
    exact PySem.SeqAt.in_tuple_data r2 r1 p2 p1 (by omega) ⟨.bl _, H, I, rfl, q⟩
theorem o_nin (hu : X.A.units + 64 < cLine) : OpR X (compareOp .NotIn) (rInP X.K not) := by
  intro pins s σ H x y v u Q I rx ry ⟨d, ds, hd, hc, p1, p2, hz, q⟩
  obtain ⟨as, r1⟩ := Dp.reads I d x v hd rx
  rcases hc with hc | hc
  · obtain ⟨bs, r2⟩ := Dp.reads I _ y u hc ry
    exact PySem.SeqAt.notIn_list_data r2 r1 p2 p1 (by omega) ⟨.bl _, H, I, rfl, q⟩
  · obtain ⟨bs, r2⟩ := Dp.reads I _ y u hc ry
    exact PySem.SeqAt.notIn_tuple_data r2 r1 p2 p1 (by omega) ⟨.bl _, H, I, rfl, q⟩
def itemsOf : PV → Option (List PV)
  | .lst xs => some xs
  | .tup xs => some xs
  | _ => none
def opInB (f : Bool → Bool) (e : Env) (g : G) (x y : PV) : Option PV := match itemsOf (top e g y) with
  | some ys => if pureD 60 (top e g x) && pureDs 59 ys then some (.bl (f (ys.any fun z => eqvP z (top e g x)))) else none
  | none => none
abbrev opIn := opInB id
abbrev opNin := opInB not
theorem any_eqv {n m : Nat} {d : PV} (hd : pureD m d = true) : ∀ {ys : List PV}, pureDs n ys = true → (ys.any fun z => eqvP z d) = ((toDs ys).any fun z => PyData.eqv z (toD d))
  | [], _ => rfl
  | y :: ys, h => by
    unfold pureDs at h
    rw [Bool.and_eq_true] at h
    unfold toDs
    rw [List.any_cons, List.any_cons, any_eqv hd h.2, eqvP_ok n m y d h.1 hd]
theorem s_inB {K : PySem.W.Frag} {f : Bool → Bool} : OpS K (rInP K f) (opInB f) := by
  intro R W0 W g e σ H x y z v u Q rep rx ry h k
  unfold opInB at h
  split at h
  · rename_i ys hy
    split at h
    · rename_i hc
      rw [Bool.and_eq_true] at hc
      cases h
      have hpy : pureD 60 (top e g y) = true := by
        cases ht : top e g y with
        | lst zs => rw [ht] at hy; cases hy; unfold pureD; exact hc.2
        | tup zs => rw [ht] at hy; cases hy; unfold pureD; exact hc.2
        | _ => rw [ht] at hy; cases hy
      have hdp := ry.dp rep hpy
      have hor : Dp K H u (.list (toDs ys)) ∨ Dp K H u (.tuple (toDs ys)) := by
        cases ht : top e g y with
        | lst zs => rw [ht] at hy hdp; cases hy; unfold toD at hdp; exact .inl hdp
        | tup zs => rw [ht] at hy hdp; cases hy; unfold toD at hdp; exact .inr hdp
        | _ => rw [ht] at hy; cases hy
      refine ⟨_, _, rx.dp rep hc.1, hor, toD_plain 60 _ hc.1, toDs_plain 59 _ hc.2, toD_depth 60 _ hc.1, ?_⟩
      rw [← any_eqv hc.1 hc.2]
      exact k W H _ (Le.refl _) rep rfl
    · cases h
  · cases h
/-- is None, is True, is False -/
def rIsQ (f : Bool → Bool) : R2 := fun x y H Q => (y = .non ∧ Q (.bl (f (decide (x = .non)))) H) ∨ (∃ a b, x = .bl a ∧ y = .bl b ∧ Q (.bl (f (decide (a = b)))) H)
theorem o_is : OpR X (compareOp .Is) (rIsQ id) := OpR.or op_isN op_is_bl
theorem o_isnot : OpR X (compareOp .IsNot) (rIsQ not) := OpR.or op_notN op_isnot_bl
def isNonP : PV → Bool
  | .non => true
  | _ => false
def opIsB (f : Bool → Bool) (_ : Env) (_ : G) (x y : PV) : Option PV := match y with
  | .non => (match x with
    | .ext _ => none
    | x => some (.bl (f (isNonP x))))
  | .bl b => (match x with
    | .bl a => some (.bl (f (decide (a = b))))
    | _ => none)
  | _ => none
abbrev opIs := opIsB id
abbrev opIsnot := opIsB not
theorem s_isB {K : PySem.W.Frag} {f : Bool → Bool} : OpS K (rIsQ f) (opIsB f) := by
  intro R W0 W g e σ H x y z v u Q rep rx ry h k
  unfold opIsB at h
  split at h
  · obtain rfl := ry
    have key : ∀ b : Bool, isNonP x = b → (∀ w, x ≠ .ext w) → decide (v = V.non) = b := by
      intro b hb hx
      subst hb
      cases x with
      | non => obtain rfl := rx; rfl
      | bl _ => obtain rfl := rx; rfl
      | int _ => obtain rfl := rx; rfl
      | str _ => obtain rfl := rx; rfl
      | tup _ => obtain ⟨a, vs, rfl, _⟩ := rx; rfl
      | lst _ => obtain ⟨a, vs, rfl, _⟩ := rx; rfl
      | scr _ => obtain ⟨a, vs, rfl, _⟩ := rx; rfl
      | ref _ => obtain ⟨a, rfl, _⟩ := rx; rfl
      | bor i =>
        obtain ⟨⟨o, he⟩, hs⟩ := rx
        obtain ⟨a, h1, _⟩ := rep.slot i _ he
        rw [hs] at h1; cases h1; rfl
      | ext w => exact absurd rfl (hx w)
    refine .inl ⟨rfl, ?_⟩
    split at h
    · cases h
    · rename_i hne
      cases h
      rw [key _ rfl (fun w z => hne w z)]
      exact k W H _ (Le.refl _) rep rfl
  · obtain rfl := ry
    split at h
    · cases h; obtain rfl := rx
      exact .inr ⟨_, _, rfl, rfl, k W H _ (Le.refl _) rep rfl⟩
    · cases h
  · cases h

/-! ## subscripts -/
theorem atI_rep {K : PySem.W.Frag} {W : Wd} {xs : List PV} {vs : List V} {i : Int} {p : PV} (r : RepVs K W xs vs) (h : atI xs i = some p) : ∃ v, atI vs i = some v ∧ RepV K W p v := by
  unfold atI at h ⊢
  rw [r.length]
  cases hj : ixN xs.length i with
  | none => rw [hj] at h; cases h
  | some j => rw [hj] at h; exact r.get h
def opIx (e : Env) (g : G) (x y : PV) : Option PV := match y with
  | .int i => (match x with
    | .str z => if fits z.length then (atI z.cps.toList i).map fun c => .str ⟨#[c]⟩ else none
    | x => (asSeq e g x).bind fun q => atI q.2 i)
  | _ => none
theorem s_ix {K : PySem.W.Frag} : OpS K (rIx K) opIx := by
  intro R W0 W g e σ H x y z v u Q rep rx ry h k
  unfold opIx at h
  split at h
  · rename_i i
    obtain rfl := ry
    split at h
    · rename_i s0
      obtain rfl := rx
      split at h
      · rename_i hf
        cases hc : atI s0.cps.toList i with
        | none => rw [hc] at h; cases h
        | some c =>
          rw [hc] at h; cases h
          exact .inr (.inr ⟨s0, i, c, rfl, rfl, fits_le hf, hc, k W H _ (Le.refl _) rep rfl⟩)
      · cases h
    · cases hq : asSeq e g x with
      | none => rw [hq] at h; cases h
      | some q =>
        obtain ⟨b, xs⟩ := q
        rw [hq] at h
        obtain ⟨a, vs, rfl, h1, h2, h3⟩ := asSeq_rep rep rx hq
        obtain ⟨w, h4, h5⟩ := atI_rep h2 h
        cases b with
        | true => exact .inl ⟨a, vs, i, w, rfl, rfl, h1, h4, k W H _ (Le.refl _) rep h5⟩
        | false => exact .inr (.inl ⟨a, vs, i, w, rfl, rfl, h1, h4, k W H _ (Le.refl _) rep h5⟩)
  · cases h
end
end Q

namespace Q
open PySem L2
section
variable {X : Cx} {wx : WX} {x : Expr} {f : EE} {pos : Pos}

/-! ## slices -/
def tO (mg : MG) (K : PySem.W.Frag) (wx : WX) (f : Env → G → Res (Option Int)) : TO := fun σ H Q => ∃ R W0 W g e, Rep K R W0 W g e σ H ∧
  Oc mg K R W0 e σ wx W (f e g) (fun o _ _ H' => Q o H')
def QO (X : Cx) (wx : WX) (x : Option Expr) (f : Env → G → Res (Option Int)) : Prop := PO X x (tO X.mg X.K wx f)
def oNone : Env → G → Res (Option Int) := fun _ g => .ok none g
def oSome (f : EE) : Env → G → Res (Option Int) := fun e g => (f e g).bind fun p g1 => match p with
  | .int i => .ok (some i) g1
  | _ => .bad
theorem qo_none : QO X wx none oNone := ⟨fun pins s σ H Q I ⟨R, W0, W, g, e, rep, q⟩ => po_none.run pins s σ H Q I (q W H (Le.refl _) rep)⟩
theorem qo_some (h : QE X wx x f) : QO X wx (some x) (oSome f) := ⟨fun pins s σ H Q I ⟨R, W0, W, g, e, rep, q⟩ => (po_some h).run pins s σ H Q I ⟨R, W0, W, g, e, rep, q.bind.imp fun p W1 g1 H1 l1 rep1 q1 v rv => by
  cases p with
  | int i => exact ⟨i, rv, q1 W1 H1 (Le.refl _) rep1⟩
  | _ => exact q1.elim⟩⟩
def cutP {α : Type} (xs : List α) (lo hi : Option Int) : List α := (xs.drop (HT.sIx xs.length 0 lo)).take (HT.sIx xs.length xs.length hi - HT.sIx xs.length 0 lo)
theorem cut_rep {K : PySem.W.Frag} {W : Wd} {xs : List PV} {vs : List V} (r : RepVs K W xs vs) (lo hi : Option Int) : RepVs K W (cutP xs lo hi) (cutV vs lo hi) := by
  unfold cutP cutV
  rw [r.length]
  exact (r.drop _).take _
def rSlQ (K : PySem.W.Frag) : V → Option Int → Option Int → Hp → VK → Prop := fun x lo hi H Q => rSlA K x lo hi H Q ∨ rSlL K x lo hi H Q ∨ rSlS x lo hi H Q
theorem sl_q : SlR X (rSlQ X.K) := SlR.or sl_tupA (SlR.or sl_list sl_str)
/-- a slice of a tuple, a list, a text; of a list a frozen one -/
def opSl (e : Env) (g : G) (x : PV) (lo hi : Option Int) : Option PV := match x with
  | .str z => if fits z.length then some (.str (cutS z lo hi)) else none
  | x => (asSeq e g x).map fun q => if q.1 then .lst (cutP q.2 lo hi) else .tup (cutP q.2 lo hi)
def eSl (f : EE) (fl fh : Env → G → Res (Option Int)) : EE := fun e g => (f e g).bind fun p g1 => (fl e g1).bind fun lo g2 => (fh e g2).bind fun hi g3 => optR (opSl e g3 p lo hi) g3
theorem q_sl {lo hi : Option Expr} {fl fh : Env → G → Res (Option Int)} {p2 : Pos} (h : QB X wx x f) (hl : QO X wx lo fl) (hh : QO X wx hi fh) : QE X wx (.Subscript x (.Slice lo hi none p2) pos) (eSl f fl fh) :=
  PE.weak (pe_slice sl_q h hl hh) fun σ H Q ⟨R, W0, W, g, e, rep, q⟩ => by
    refine ⟨R, W0, W, g, e, rep, q.bind.imp fun p W1 g1 H1 l1 rep1 q1 v rv => ?_⟩
    refine ⟨R, W0, W1, g1, e, rep1, q1.bind.imp fun lo W2 g2 H2 l2 rep2 q2 => ?_⟩
    refine ⟨R, W0, W2, g2, e, rep2, q2.bind.imp fun hi W3 g3 H3 l3 rep3 q3 => ?_⟩
    have rv3 := rv.mono (l2.trans l3)
    have cl : ∀ {k : Bool} {xs : List PV}, asSeq e g3 p = some (k, xs) → Oc X.mg X.K R W0 e σ wx W3 (optR (some (if k then PV.lst (cutP xs lo hi) else PV.tup (cutP xs lo hi))) g3) (fun p W' _ H' => ∀ v, RepV X.K W' p v → Q v H') → rSlQ X.K v lo hi H3 Q := by
      intro k xs hq q4
      obtain ⟨a, vs, rfl, h1, h2, h3⟩ := asSeq_rep rep3 rv3 hq
      have hc := cut_rep h2 lo hi
      have hz : (cutV vs lo hi).length ≤ sizeLine := Nat.le_trans (cutV_length vs lo hi) h3
      cases k with
      | true =>
        refine .inr (.inl ⟨a, vs, rfl, h1, fun p hp => ?_⟩)
        obtain ⟨r2, l2⟩ := rep3.newFz (k := true) hp hz
        exact q4 _ _ l2 r2 _ ⟨p, _, rfl, putW_same, RepVs.mono l2 _ _ hc⟩
      | false =>
        refine .inl ⟨a, vs, rfl, h1, fun hw => ?_, fun _ p hp => ?_⟩
        · -- the whole: the same object
          have hx : p = .tup xs := by
            cases p with
            | tup ys => cases hq; rfl
            | lst ys => cases hq
            | bor i =>
              simp only [asSeq] at hq
              split at hq <;> cases hq
            | ref n =>
              simp only [asSeq] at hq
              split at hq <;> cases hq
            | _ => cases hq
          subst hx
          have e1 : cutP xs lo hi = xs := by
            unfold cutP
            rw [← h2.length, hw.1, hw.2, List.drop_zero, Nat.sub_zero, h2.length, List.take_length]
          have q4' : Oc X.mg X.K R W0 e σ wx W3 (optR (some (PV.tup (cutP xs lo hi))) g3) (fun p W' _ H' => ∀ v, RepV X.K W' p v → Q v H') := q4
          rw [e1] at q4'
          exact q4' W3 H3 (Le.refl _) rep3 _ rv3
        · obtain ⟨r2, l2⟩ := rep3.newFz (k := false) hp hz
          exact q4 _ _ l2 r2 _ ⟨p, _, rfl, .inl putW_same, RepVs.mono l2 _ _ hc⟩
    have gen : (∀ z, p ≠ .str z) → rSlQ X.K v lo hi H3 Q := by
      intro hn
      have e1 : opSl e g3 p lo hi = (asSeq e g3 p).map fun q => if q.1 then .lst (cutP q.2 lo hi) else .tup (cutP q.2 lo hi) := by
        unfold opSl
        split
        · exact absurd rfl (hn _)
        · rfl
      rw [e1] at q3
      cases hq : asSeq e g3 p with
      | none => rw [hq] at q3; exact q3.elim
      | some kx => rw [hq] at q3; exact cl (k := kx.1) (xs := kx.2) hq q3
    cases p with
    | str z =>
      simp only [opSl] at q3
      split at q3
      · rename_i hf
        obtain rfl := rv
        exact .inr (.inr ⟨z, rfl, fits_le hf, q3 W3 H3 (Le.refl _) rep3 _ rfl⟩)
      · exact q3.elim
    | _ => exact gen (fun z h => by cases h)
/-- a new list, sliced -/
def opSlL (e : Env) (g : G) (x : PV) (lo hi : Option Int) : Option (List PV) := match asSeq e g x with
  | some (true, xs) => some (cutP xs lo hi)
  | _ => none
def eSlL (f : EE) (fl fh : Env → G → Res (Option Int)) : EL := fun e g => (f e g).bind fun p g1 => (fl e g1).bind fun lo g2 => (fh e g2).bind fun hi g3 => optR (opSlL e g3 p lo hi) g3
theorem q_slL {lo hi : Option Expr} {fl fh : Env → G → Res (Option Int)} {p2 : Pos} (h : QB X wx x f) (hl : QO X wx lo fl) (hh : QO X wx hi fh) : QF X wx (.Subscript x (.Slice lo hi none p2) pos) (eSlL f fl fh) :=
  PE.weak (pe_slice sl_q h hl hh) fun σ H Q ⟨R, W0, W, g, e, rep, q⟩ => by
    refine ⟨R, W0, W, g, e, rep, q.bind.imp fun p W1 g1 H1 l1 rep1 q1 v rv => ?_⟩
    refine ⟨R, W0, W1, g1, e, rep1, q1.bind.imp fun lo W2 g2 H2 l2 rep2 q2 => ?_⟩
    refine ⟨R, W0, W2, g2, e, rep2, q2.bind.imp fun hi W3 g3 H3 l3 rep3 q3 => ?_⟩
    have rv3 := rv.mono (l2.trans l3)
    unfold opSlL at q3
    split at q3
    · rename_i xs hq
      obtain ⟨a, vs, rfl, h1, h2, h3⟩ := asSeq_rep rep3 rv3 hq
      refine .inr (.inl ⟨a, vs, rfl, h1, fun p hp => ?_⟩)
      obtain ⟨r2, hW, hR⟩ := rep3.newLst (u := .lst (cutV vs lo hi)) hp
      exact q3 W3 _ (Le.refl _) r2 p _ hW hR upd_same (cut_rep h2 lo hi) (Nat.le_trans (cutV_length vs lo hi) h3)
    · exact q3.elim
end
end Q

/-! ## t[::-1] -/
namespace Q
open PySem PySem.Spec PyProof.Rows L2
theorem rev_run (xs : Array Value) : ((List.range xs.size).filterMap fun (k : Nat) => xs[(((xs.size : Int) - 1) + (k : Int) * (-1)).toNat]?).toArray = xs.toList.reverse.toArray := by
  congr 1
  have e : (List.range xs.size).map (fun (k : Nat) => (((xs.size : Int) - 1) + (k : Int) * (-1)).toNat) = (List.range xs.size).map fun k => xs.size - 1 - k :=
    List.map_congr_left fun k hk => by have := List.mem_range.mp hk; omega
  have e2 := List.filterMap_map (f := fun (k : Nat) => (((xs.size : Int) - 1) + (k : Int) * (-1)).toNat) (g := fun (i : Nat) => xs[i]?) (l := List.range xs.size)
  rw [e, PySem.W.krv_range, List.filterMap_reverse, PySem.W.krv_all] at e2
  exact e2.symm
section
variable {prog : Program} {w : World} {A : Around} {E : Value → Shared → Prop} {s : Shared}
theorem revPlaces (n : Nat) : Builtin.Slice.slicePlaces ((n : Int) - 1) (-1) (-1) = n := by
  unfold Builtin.Slice.slicePlaces
  have h1 : ¬ ((-1 : Int) > 0) := by decide
  have h2 : (- -1 : Int) = 1 := by decide
  simp only [h1, if_false, h2, Int.ediv_one]
  split <;> omega
theorem revApplied {sl : Addr} {t : Tok} {n : Nat} {Q : Int × Int × Nat → Shared → Prop} (hs : s.heap.IsSliceOf sl .none .none (.int (-1) t)) (h : Q ((n : Int) - 1, -1, n) s) : wpAny (model prog w) A (Builtin.Slice.sliceApplied (.ref sl) (pure (n : Int))) Q E s := by
  obtain ⟨os, hos, hcs, hds⟩ := id hs
  unfold Builtin.Slice.sliceApplied Builtin.Slice.sliceFields
  refine wpAny_bind (wpAny_bind (wpAny_field hos hds (x := .none) rfl (wpAny_bind (wpAny_field hos hds (x := .none) rfl (wpAny_bind (wpAny_field hos hds (x := .int (-1) t) rfl (wpAny_pure ?_)))))))
  refine wpAny_bind (slicePart_int ?_)
  show wpAny _ _ (if ((-1 : Int) == 0) = true then _ else _) _ _ s
  rw [if_neg (by decide)]
  refine wpAny_bind (slicePart_none (wpAny_bind (slicePart_none (wpAny_bind (wpAny_pure ?_)))))
  have e : Builtin.Slice.sliceAdjust none none (-1) (n : Int) = ((n : Int) - 1, -1) := by
    unfold Builtin.Slice.sliceAdjust
    simp
  show wpAny _ _ (match Builtin.Slice.sliceAdjust none none (-1) (n : Int) with | (lo, hi) => pure (lo, (-1 : Int), Builtin.Slice.slicePlaces lo hi (-1))) _ _ s
  rw [e]
  show wpAny _ _ (pure ((n : Int) - 1, (-1 : Int), Builtin.Slice.slicePlaces ((n : Int) - 1) (-1) (-1))) _ _ s
  rw [revPlaces]
  exact wpAny_pure h
theorem getItem_tuple_rev {t sl : Addr} {tk : Tok} {items : Array Value} {Q : Value → Shared → Prop} (ht : IsTup s.heap t items) (hs : s.heap.IsSliceOf sl .none .none (.int (-1) tk))
    (h : Q (.ref s.heap.objs.size) { s with heap := s.heap.push { cls := .type "tuple", data := .seq items.toList.reverse.toArray } }) (hsz : items.size ≤ sizeLine) : wpAny (model prog w) A (getItem (.ref t) (.ref sl)) Q E s := by
  have htake : sizeOk (.seq items.toList.reverse.toArray) := by
    show items.toList.reverse.toArray.size ≤ sizeLine
    simpa using hsz
  obtain ⟨os, hos, hcs, hds⟩ := id hs
  have hTs : s.TypeIs (.ref sl) "slice" := ⟨os, hos, hcs⟩
  unfold getItem
  try with_reducible refine wpAny_holding ?_
  first | refine wpAny_bind (wpAny_pure ?_) | skip
  refine wpAny_bind (wpAny_sequenceKey ht.typeIs (by decide) ?_)
  refine wpAny_bind (wpAny_callSpecial?_slot (name := Str.ofString "__getitem__") ht.typeIs PyProof.Rows.slot_tuple_getitem (wpAny_call_entry PyProof.Rows.slot_tuple_getitem ht.typeIs entry_tuple_getitem ?_ (args_tuple_getitem _ _)))
  show wpAny _ _ (Builtin.Tuple.tupleItemsOf (.ref t) >>= _) _ _ s
  refine wpAny_bind (tupleItemsOf_ ht ?_)
  refine wpAny_bind (wpAny_typeOf hTs ?_)
  rw [if_pos (by decide)]
  refine wpAny_bind (revApplied hs ?_)
  have hno : ¬ ((((items.size : Int) - 1) == 0 && (-1 : Int) == 1 && items.size == items.size) = true) := by simp
  show wpAny _ _ (if (((items.size : Int) - 1) == 0 && (-1 : Int) == 1 && items.size == items.size) = true then _ else _) _ _ s
  rw [if_neg hno, rev_run]
  first
    | exact wpAny_bind (m := Builtin.Tuple.tupleExact _) (wpAny_newObj_type (wpAny_pure ⟨_, rfl, wpAny_pure h⟩) htake)
    | exact wpAny_bind (m := Builtin.Tuple.tupleExact _) (wpAny_newObj_type (wpAny_bind (wpAny_pure (wpAny_pure ⟨_, rfl, wpAny_pure h⟩))) htake)
    | exact wpAny_bind (wpAny_bind (m := Builtin.Tuple.tupleExact _) (wpAny_newObj_type (wpAny_pure (wpAny_pure ⟨_, rfl, wpAny_pure h⟩)) htake))
    | exact wpAny_bind (wpAny_bind (m := Builtin.Tuple.tupleExact _) (wpAny_newObj_type (wpAny_pure ⟨_, rfl, wpAny_pure h⟩) htake))
end
section
variable {X : Cx} {e : Expr} {te : TE}
/-- x[::-1] of a list or a tuple -/
def tRev (K : PySem.W.Frag) (te : TE) : TE := fun σ H Q => te σ H fun x H1 => (∃ a xs, x = .ref a ∧ SqL K H1 a xs ∧ ∀ p, H1 p = none → Q (.ref p) (upd H1 p (.lst xs.reverse))) ∨
  (∃ a xs, x = .ref a ∧ SqT K H1 a xs ∧ ∀ p, H1 p = none → Q (.ref p) (upd H1 p (.tup xs.reverse)))
theorem pe_rev {k : Nat} {p1 p2 p3 pos : Pos} (he : PE X e te) : PE X (.Subscript e (.Slice none none (some (.UnaryOp .USub (.Constant (.int 1) k p1) p2)) p3) pos) (tRev X.K te) := by
  refine ⟨fun pins s σ H Q I h => ?_⟩
  refine Subscript_ (thn (he.run pins s σ H _ I h) fun v s1 ⟨x, H1, I1, r1, q1⟩ => ?_)
  have hst : PO X (some (.UnaryOp .USub (.Constant (.int 1) k p1) p2)) (tPart (tUn (rU fun i => .int (-i)) (tC (.int 1)))) := po_some (pe_un un_neg pe_int)
  refine wpAny_Slice ?_
  rw [evalPart_none]
  refine wpAny_pure (wpAny_pure ?_)
  refine thn (hst.run pins s1 σ H1 (fun o H4 => o = some (-1) ∧ H4 = H1) I1 ⟨1, rfl, -1, rfl, rfl, rfl⟩) fun vs s4 ⟨o, H4, I4, ps, eo, e4⟩ => ?_
  subst eo e4
  cases ps with
  | int _ tk =>
    have I5 : Inv X pins σ H4 { s4 with heap := s4.heap.push { cls := .type "slice", data := .fields #[.none, .none, .int (-1) tk] } } := I4.kept (t' := s4.toks) fun b ob q => Heap.get?_push_of_some _ q
    rcases q1 with ⟨a, xs, ex, hx, q⟩ | ⟨a, xs, ex, hx, q⟩
    · subst ex
      cases r1
      obtain ⟨its, r, ht, hz⟩ := I5.list hx
      have hlen := r.length
      show wpAny (model X.prog X.w) X.A (subscriptTail e (.Slice none none (some (.UnaryOp .USub (.Constant (.int 1) k p1) p2)) p3) (.ref a) (.ref s4.heap.objs.size)) (EP X pins σ Q) X.xe _
      refine tail_any (ops := [.ref a, .ref s4.heap.objs.size]) ht.isList.typeIs PySem.slot_list_getitem.lookup ?_ (by with_unfolding_all rfl)
      refine wpAny_getItem_list_slice ht.isList (Heap.IsSliceOf.new _ _ _ _) .none .none (.int (-1) tk) (by decide) ?_ (by rw [List.size_toArray]; omega)
      rw [PySem.W.krv_pick]
      exact ⟨.ref _, _, I5.laid (t' := s4.toks) (o := .lst xs.reverse) (fun b ob q => Heap.get?_push_of_some _ q) (Nat.le_refl _) ⟨by rw [List.length_reverse]; exact hz, _, 0, r.reverse, Heap.get?_push_size _ rfl⟩, rfl, q _ (I5.hok.fresh (Nat.le_refl _))⟩
    · subst ex
      cases r1
      obtain ⟨its, r, ht, hz⟩ := I5.tuple hx
      have hlen := r.length
      show wpAny (model X.prog X.w) X.A (subscriptTail e (.Slice none none (some (.UnaryOp .USub (.Constant (.int 1) k p1) p2)) p3) (.ref a) (.ref s4.heap.objs.size)) (EP X pins σ Q) X.xe _
      refine tail_any (ops := [.ref a, .ref s4.heap.objs.size]) ht.typeIs PyProof.Rows.slot_tuple_getitem.lookup ?_ (by with_unfolding_all rfl)
      refine getItem_tuple_rev ht (Heap.IsSliceOf.new _ _ _ _) ?_ (by rw [List.size_toArray]; omega)
      exact ⟨.ref _, _, I5.laid (t' := s4.toks) (o := .tup xs.reverse) (fun b ob q => Heap.get?_push_of_some _ q) (Nat.le_refl _) ⟨by rw [List.length_reverse]; exact hz, _, r.reverse, IsTup.new _ _⟩, rfl, q _ (I5.hok.fresh (Nat.le_refl _))⟩
end
end Q
namespace Q
open PySem L2
section
variable {X : Cx} {wx : WX} {x : Expr} {f : EE} {pos : Pos}
def opRev (e : Env) (g : G) (x : PV) : Option PV := (asSeq e g x).map fun q => if q.1 then .lst q.2.reverse else .tup q.2.reverse
def eRev (f : EE) : EE := fun e g => (f e g).bind fun p g1 => optR (opRev e g1 p) g1
theorem q_rev {k : Nat} {p1 p2 p3 : Pos} (h : QB X wx x f) : QE X wx (.Subscript x (.Slice none none (some (.UnaryOp .USub (.Constant (.int 1) k p1) p2)) p3) pos) (eRev f) :=
  PE.weak (pe_rev h) fun σ H Q ⟨R, W0, W, g, e, rep, q⟩ => by
    refine ⟨R, W0, W, g, e, rep, q.bind.imp fun p W1 g1 H1 l1 rep1 q1 v rv => ?_⟩
    unfold opRev at q1
    cases hq : asSeq e g1 p with
    | none => rw [hq] at q1; exact q1.elim
    | some kx =>
      obtain ⟨k, xs⟩ := kx
      rw [hq] at q1
      obtain ⟨a, vs, rfl, h1, h2, h3⟩ := asSeq_rep rep1 rv hq
      have hz : vs.reverse.length ≤ sizeLine := by rw [List.length_reverse]; exact h3
      cases k with
      | true =>
        refine .inl ⟨a, vs, rfl, h1, fun p hp => ?_⟩
        obtain ⟨r2, l2⟩ := rep1.newFz (k := true) hp hz
        exact q1 _ _ l2 r2 _ ⟨p, _, rfl, putW_same, RepVs.mono l2 _ _ h2.reverse⟩
      | false =>
        refine .inr ⟨a, vs, rfl, h1, fun p hp => ?_⟩
        obtain ⟨r2, l2⟩ := rep1.newFz (k := false) hp hz
        exact q1 _ _ l2 r2 _ ⟨p, _, rfl, .inl putW_same, RepVs.mono l2 _ _ h2.reverse⟩

/-! ## isinstance against the built-in classes -/
inductive Kd where
  | bool | int | str | tuple | list
def Kd.name : Kd → String
  | .bool => "bool" | .int => "int" | .str => "str" | .tuple => "tuple" | .list => "list"
/-- the kind of a value -/
def kdV (K : PySem.W.Frag) (H : Hp) (x : V) : Option Kd → Prop
  | none => x = .non
  | some .bool => ∃ b, x = .bl b
  | some .int => ∃ i, x = .int i
  | some .str => ∃ s, x = .str s
  | some .tuple => ∃ a xs, x = .ref a ∧ SqT K H a xs
  | some .list => ∃ a xs, x = .ref a ∧ SqL K H a xs
def isa : Option Kd → Kd → Bool
  | some .bool, .bool => true
  | some .bool, .int => true
  | some .int, .int => true
  | some .str, .str => true
  | some .tuple, .tuple => true
  | some .list, .list => true
  | _, _ => false
def rIsa (K : PySem.W.Frag) (T : Kd) : List V → Hp → VK → Prop := fun vs H Q => ∃ x k, vs = [x, .ty T.name] ∧ kdV K H x k ∧ Q (.bl (isa k T)) H
theorem call_isa (T : Kd) : CallR X (.builtin "isinstance") (rIsa X.K T) := by
  intro pins s σ H xs us Q I r ⟨x, k, e, hk, q⟩
  subst e
  obtain ⟨u1, u2, rfl, r1, r2⟩ := vals2 r
  obtain rfl : u2 = .type T.name := r2
  have fin : ∀ {b : Bool} {t : Nat}, b = isa k T → EP X pins σ Q (.bool b) { s with toks := t } := fun e => ⟨.bl _, H, I.tok _, rfl, by rw [e]; exact q⟩
  cases k with
  | none =>
    obtain rfl : x = .non := hk
    obtain rfl : u1 = .none := r1
    cases T with
    | bool => exact PySem.IsiPair.NoneType_bool (fin rfl)
    | int => exact PySem.IsiPair.NoneType_int (fin rfl)
    | str => exact PySem.IsiPair.NoneType_str (fin rfl)
    | tuple => exact PySem.IsiPair.NoneType_tuple (fin rfl)
    | list => exact PySem.IsiPair.NoneType_list (fin rfl)
  | some k =>
    cases k with
    | bool =>
      obtain ⟨b, rfl⟩ := hk
      obtain rfl : u1 = .bool b := r1
      cases T with
      | bool => exact PySem.IsiPair.bool_bool (fin (t := s.toks) rfl)
      | int => exact PySem.IsiPair.bool_int (fin (t := s.toks) rfl)
      | str => exact PySem.IsiPair.bool_str (fin rfl)
      | tuple => exact PySem.IsiPair.bool_tuple (fin rfl)
      | list => exact PySem.IsiPair.bool_list (fin rfl)
    | int =>
      obtain ⟨b, rfl⟩ := hk
      obtain ⟨t, rfl⟩ := r1
      cases T with
      | bool => exact PySem.IsiPair.int_bool (fin rfl)
      | int => exact PySem.IsiPair.int_int (fin (t := s.toks) rfl)
      | str => exact PySem.IsiPair.int_str (fin rfl)
      | tuple => exact PySem.IsiPair.int_tuple (fin rfl)
      | list => exact PySem.IsiPair.int_list (fin rfl)
    | str =>
      obtain ⟨b, rfl⟩ := hk
      obtain ⟨t, rfl⟩ := r1
      cases T with
      | bool => exact PySem.IsiPair.str_bool (fin rfl)
      | int => exact PySem.IsiPair.str_int (fin rfl)
      | str => exact PySem.IsiPair.str_str (fin (t := s.toks) rfl)
      | tuple => exact PySem.IsiPair.str_tuple (fin rfl)
      | list => exact PySem.IsiPair.str_list (fin rfl)
    | tuple =>
      obtain ⟨a, xs, rfl, hx⟩ := hk
      cases r1
      obtain ⟨its, rv, ⟨o, h1, h2, _⟩, _⟩ := I.tuple hx
      cases T with
      | bool => exact PySem.IsiPair.tuple_bool h1 h2 (fin rfl)
      | int => exact PySem.IsiPair.tuple_int h1 h2 (fin rfl)
      | str => exact PySem.IsiPair.tuple_str h1 h2 (fin rfl)
      | tuple => exact PySem.IsiPair.tuple_tuple h1 h2 (fin (t := s.toks) rfl)
      | list => exact PySem.IsiPair.tuple_list h1 h2 (fin rfl)
    | list =>
      obtain ⟨a, xs, rfl, hx⟩ := hk
      cases r1
      obtain ⟨its, rv, p, _⟩ := I.list hx
      obtain ⟨o, h1, h2, _⟩ := p.isList
      cases T with
      | bool => exact PySem.IsiPair.list_bool h1 h2 (fin rfl)
      | int => exact PySem.IsiPair.list_int h1 h2 (fin rfl)
      | str => exact PySem.IsiPair.list_str h1 h2 (fin rfl)
      | tuple => exact PySem.IsiPair.list_tuple h1 h2 (fin rfl)
      | list => exact PySem.IsiPair.list_list h1 h2 (fin (t := s.toks) rfl)
def kdP (e : Env) (g : G) : PV → Option (Option Kd)
  | .non => some none
  | .bl _ => some (some .bool)
  | .int _ => some (some .int)
  | .str _ => some (some .str)
  | p => (asSeq e g p).map fun q => some (if q.1 then .list else .tuple)
theorem kdP_ok {K : PySem.W.Frag} {R : Hp} {W0 W : Wd} {g : G} {e : Env} {σ : St} {H : Hp} {p : PV} {v : V} {k : Option Kd} (rep : Rep K R W0 W g e σ H) (r : RepT K W e σ p v) (h : kdP e g p = some k) : kdV K H v k := by
  have sq : ∀ {b : Bool} {xs : List PV}, asSeq e g p = some (b, xs) → kdV K H v (some (if b then .list else .tuple)) := by
    intro b xs hq
    obtain ⟨a, vs, rfl, h1, _⟩ := asSeq_rep rep r hq
    cases b with
    | true => exact ⟨a, vs, rfl, h1⟩
    | false => exact ⟨a, vs, rfl, h1⟩
  have gen : ((asSeq e g p).map fun q => some (if q.1 then Kd.list else Kd.tuple)) = some k → kdV K H v k := by
    intro h
    cases hq : asSeq e g p with
    | none => rw [hq] at h; cases h
    | some kx =>
      rw [hq] at h
      cases h
      exact sq (b := kx.1) (xs := kx.2) hq
  cases p with
  | non => cases h; exact r
  | bl b => cases h; exact ⟨b, r⟩
  | int i => cases h; exact ⟨i, r⟩
  | str s => cases h; exact ⟨s, r⟩
  | _ => exact gen h
def eIsa (T : Kd) (f : EE) : EE := fun e g => (f e g).bind fun p g1 => match kdP e g1 p with
  | some k => .ok (.bl (isa k T)) g1
  | none => .bad
theorem q_isa (T : Kd) {y : Expr} {p : Pos} (hm : X.mg "isinstance" = none) (h : QB X wx x f) (hy : PE X y (tC (.ty T.name))) (hg : Gl X "isinstance" := by rfl)
    (hs1 : starEach [x, y] X.env = (false, eval x X.env) :: starEach [y] X.env := by rfl) (hs2 : starEach [y] X.env = (false, eval y X.env) :: starEach [] X.env := by rfl) (hpl : (backTo pos (starEach [y] X.env)).any (·.1) = false := by rfl) :
    QE X wx (.Call (.Name "isinstance" p) [x, y] [] pos) (eIsa T f) :=
  PE.weak (pe_callB (call_isa T) hg hm (by decide +kernel) (pa_cons h (pa_cons hy pa_nil hs2) hs1) (by decide) (by decide) hs1 hpl) fun σ H Q ⟨R, W0, W, g, e, rep, q⟩ => by
    refine ⟨R, W0, W, g, e, rep, q.bind.imp fun p W1 g1 H1 l1 rep1 q1 v rv => ?_⟩
    cases hk : kdP e g1 p with
    | none => rw [hk] at q1; exact q1.elim
    | some k =>
      rw [hk] at q1
      exact ⟨v, k, rfl, kdP_ok rep1 rv hk, q1 W1 H1 (Le.refl _) rep1 _ rfl⟩
/-- a built-in class by its name -/
theorem q_cls (T : Kd) {n : Str} (hm : X.mg n = none) (hv : bootBuiltins n = some (.type T.name)) (hg : Gl X n := by rfl) (hn : n ≠ "__name__" := by decide) (hd : (n == ("__debug__" : Str)) = false := by decide) : PE X (.Name n pos) (tC (.ty T.name)) := pe_bltn hg hm hv rfl hn hd
end
end Q

namespace Q
open PySem PySem.Spec PyProof.Rows L2

/-! ## built-in calls -/
def intsOf : List PV → Option (List Int)
  | [] => some []
  | .int i :: xs => (intsOf xs).map (i :: ·)
  | _ :: _ => none
def blsOf : List PV → Option (List Bool)
  | [] => some []
  | .bl i :: xs => (blsOf xs).map (i :: ·)
  | _ :: _ => none
section
variable {K : PySem.W.Frag} {R : Hp} {W0 W : Wd} {g : G} {e : Env} {σ : L2.St} {H : Hp}
theorem intsOf_rep : ∀ {xs : List PV} {ns : List Int} {vs : List V}, intsOf xs = some ns → RepVs K W xs vs → vs = ns.map V.int
  | [], ns, vs, h, r => by cases h; exact r
  | .int i :: xs, ns, vs, h, ⟨w, ws, e, r, rs⟩ => by
    unfold intsOf at h
    cases hq : intsOf xs with
    | none => rw [hq] at h; cases h
    | some ms =>
      rw [hq] at h; cases h
      subst e
      rw [intsOf_rep hq rs]
      obtain rfl : w = .int i := r
      rfl
theorem blsOf_rep : ∀ {xs : List PV} {ns : List Bool} {vs : List V}, blsOf xs = some ns → RepVs K W xs vs → vs = ns.map V.bl
  | [], ns, vs, h, r => by cases h; exact r
  | .bl i :: xs, ns, vs, h, ⟨w, ws, e, r, rs⟩ => by
    unfold blsOf at h
    cases hq : blsOf xs with
    | none => rw [hq] at h; cases h
    | some ms =>
      rw [hq] at h; cases h
      subst e
      rw [blsOf_rep hq rs]
      obtain rfl : w = .bl i := r
      rfl
theorem RepTs.one {x : PV} {vs : List V} (r : RepTs K W e σ [x] vs) : ∃ v, vs = [v] ∧ RepT K W e σ x v := by
  obtain ⟨w, ws, rfl, r1, r2⟩ := r
  obtain rfl : ws = [] := r2
  exact ⟨w, rfl, r1⟩
theorem RepTs.two {x y : PV} {vs : List V} (r : RepTs K W e σ [x, y] vs) : ∃ v u, vs = [v, u] ∧ RepT K W e σ x v ∧ RepT K W e σ y u := by
  obtain ⟨w, ws, rfl, r1, r2⟩ := r
  obtain ⟨v, rfl, r3⟩ := RepTs.one r2
  exact ⟨w, v, rfl, r1, r3⟩
end

section
variable {X : Cx}
/-- len -/
def rLenQ (K : PySem.W.Frag) : List V → Hp → VK → Prop := fun xs H Q => (∃ p ys, xs = [.ref p] ∧ (SqL K H p ys ∨ SqT K H p ys) ∧ Q (.int ys.length) H) ∨ (∃ z, xs = [.str z] ∧ z.length ≤ sizeLine ∧ Q (.int z.length) H)
theorem c_len : CallR X (.builtin "len") (rLenQ X.K) := CallR.or call_len_seq call_len_str
def opLen (e : Env) (g : G) : List PV → Option PV
  | [.str z] => if fits z.length then some (.int z.length) else none
  | [p] => (asSeq e g p).map fun q => .int q.2.length
  | _ => none
theorem s_len {K : PySem.W.Frag} : CallS K (rLenQ K) opLen := by
  intro R W0 W g e σ H xs z vs Q rep rx h k
  unfold opLen at h
  split at h
  · split at h
    · rename_i hc
      cases h
      obtain ⟨v, rfl, r⟩ := rx.one
      obtain rfl := r
      exact .inr ⟨_, rfl, fits_le hc, k W H _ (Le.refl _) rep rfl⟩
    · cases h
  · rename_i p _
    obtain ⟨v, rfl, r⟩ := rx.one
    cases hq : asSeq e g p with
    | none => rw [hq] at h; cases h
    | some kx =>
      rw [hq] at h; cases h
      obtain ⟨a, us, rfl, h1, h2, h3⟩ := asSeq_rep (k := kx.1) (xs := kx.2) rep r hq
      refine .inl ⟨a, us, rfl, ?_, ?_⟩
      · revert h1; cases kx.1 with
        | true => exact .inl
        | false => exact .inr
      · rw [h2.length]; exact k W H _ (Le.refl _) rep rfl
  · cases h
/-- tuple -/
def rTupQ (K : PySem.W.Frag) : List V → Hp → VK → Prop := fun xs H Q => ∃ p ys, xs = [.ref p] ∧ ((SqL K H p ys ∧ ∀ l, H l = none → Q (.ref l) (upd H l (.tup ys))) ∨ (SqT K H p ys ∧ Q (.ref p) H))
theorem c_tuple : CallR X (.type "tuple") (rTupQ X.K) := call_tuple_of
def opTuple (e : Env) (g : G) : List PV → Option PV
  | [p] => (asSeq e g p).map fun q => .tup q.2
  | _ => none
theorem s_tuple {K : PySem.W.Frag} : CallS K (rTupQ K) opTuple := by
  intro R W0 W g e σ H xs z vs Q rep rx h k
  unfold opTuple at h
  split at h
  · rename_i p
    obtain ⟨v, rfl, r⟩ := rx.one
    cases hq : asSeq e g p with
    | none => rw [hq] at h; cases h
    | some kx =>
      obtain ⟨b, ys⟩ := kx
      rw [hq] at h; cases h
      cases b with
      | true =>
        obtain ⟨a, us, rfl, h1, h2, h3⟩ := asSeq_rep rep r hq
        refine ⟨a, us, rfl, .inl ⟨h1, fun l hl => ?_⟩⟩
        obtain ⟨r2, l2⟩ := rep.newFz (k := false) hl h3
        exact k _ _ _ l2 r2 ⟨l, us, rfl, .inl putW_same, RepVs.mono l2 _ _ h2⟩
      | false =>
        cases p with
        | tup xs =>
          cases hq
          obtain ⟨a, us, rfl, h1, h2⟩ := r
          exact ⟨a, us, rfl, .inr ⟨(h1.sq rep.toRepG).1, k W H _ (Le.refl _) rep ⟨a, us, rfl, h1, h2⟩⟩⟩
        | bor i =>
          simp only [asSeq] at hq
          split at hq <;> simp at hq
        | ref i =>
          simp only [asSeq] at hq
          split at hq <;> simp at hq
        | _ => cases hq
  · cases h
/-- list -/
def rListQ (K : PySem.W.Frag) : List V → Hp → VK → Prop := fun xs H Q => ∃ p ys, xs = [.ref p] ∧ (SqL K H p ys ∨ SqT K H p ys) ∧ ∀ l, H l = none → Q (.ref l) (upd H l (.lst ys))
theorem c_list : CallR X (.type "list") (rListQ X.K) := call_list_of
def opList (e : Env) (g : G) : List PV → Option (List PV)
  | [p] => (asSeq e g p).map fun q => q.2
  | _ => none
theorem f_list {K : PySem.W.Frag} : CallF K (rListQ K) opList := by
  intro R W0 W g e σ H xs z vs Q rep rx h k
  unfold opList at h
  split at h
  · rename_i p
    obtain ⟨v, rfl, r⟩ := rx.one
    cases hq : asSeq e g p with
    | none => rw [hq] at h; cases h
    | some kx =>
      obtain ⟨b, ys⟩ := kx
      rw [hq] at h; cases h
      obtain ⟨a, us, rfl, h1, h2, h3⟩ := asSeq_rep rep r hq
      refine ⟨a, us, rfl, ?_, fun l hl => ?_⟩
      · revert h1; cases b with
        | true => exact .inl
        | false => exact .inr
      · obtain ⟨r2, hW, hR⟩ := rep.newLst (u := .lst us) hl
        exact k W _ l us (Le.refl _) r2 hW hR upd_same h2 h3
  · cases h
/-- int -/
def rIntQ : List V → Hp → VK → Prop := fun xs H Q => (∃ i, xs = [.int i] ∧ Q (.int i) H) ∨ ∃ k, xs = [.bl k] ∧ Q (.int (if k then 1 else 0)) H
theorem c_int : CallR X (.type "int") rIntQ := call_int1
def opInt (_ : Env) (_ : G) : List PV → Option PV
  | [.int i] => some (.int i)
  | [.bl b] => some (.int (if b then 1 else 0))
  | _ => none
theorem s_int {K : PySem.W.Frag} : CallS K rIntQ opInt := by
  intro R W0 W g e σ H xs z vs Q rep rx h k
  unfold opInt at h
  split at h
  · cases h
    obtain ⟨v, rfl, r⟩ := rx.one
    obtain rfl := r
    exact .inl ⟨_, rfl, k W H _ (Le.refl _) rep rfl⟩
  · cases h
    obtain ⟨v, rfl, r⟩ := rx.one
    obtain rfl := r
    exact .inr ⟨_, rfl, k W H _ (Le.refl _) rep rfl⟩
  · cases h
/-- abs -/
def rAbsQ : List V → Hp → VK → Prop := fun xs H Q => ∃ i, xs = [.int i] ∧ Q (.int (if i < 0 then -i else i)) H
theorem c_abs : CallR X (.builtin "abs") rAbsQ := call_abs
def opAbs (_ : Env) (_ : G) : List PV → Option PV
  | [.int i] => some (.int (if i < 0 then -i else i))
  | _ => none
theorem s_abs {K : PySem.W.Frag} : CallS K rAbsQ opAbs := by
  intro R W0 W g e σ H xs z vs Q rep rx h k
  unfold opAbs at h
  split at h
  · cases h
    obtain ⟨v, rfl, r⟩ := rx.one
    obtain rfl := r
    exact ⟨_, rfl, k W H _ (Le.refl _) rep rfl⟩
  · cases h
/-- str -/
def rStrQ : List V → Hp → VK → Prop := fun xs H Q => (∃ i, xs = [.int i] ∧ i.natAbs.log2 < 1920 ∧ Q (.str (toString i)) H) ∨ ∃ a, xs = [.str a] ∧ Q (.str a) H
theorem c_str : CallR X (.type "str") rStrQ := CallR.or call_str_int SkE.call_str_str
def opStr (_ : Env) (_ : G) : List PV → Option PV
  | [.int i] => if decide (i.natAbs < 18446744073709551616) then some (.str (toString i)) else none
  | [.str a] => some (.str a)
  | _ => none
theorem log2_small {n : Nat} (h : n < 18446744073709551616) : n.log2 < 1920 := by
  by_cases z : n = 0
  · subst z; decide
  · have := (Nat.log2_lt (k := 64) z).mpr (by have e : (2 : Nat) ^ 64 = 18446744073709551616 := by decide
                                              omega)
    omega
theorem s_str {K : PySem.W.Frag} : CallS K rStrQ opStr := by
  intro R W0 W g e σ H xs z vs Q rep rx h k
  unfold opStr at h
  split at h
  · split at h
    · rename_i hc
      cases h
      obtain ⟨v, rfl, r⟩ := rx.one
      obtain rfl := r
      exact .inl ⟨_, rfl, log2_small (of_decide_eq_true hc), k W H _ (Le.refl _) rep rfl⟩
    · cases h
  · cases h
    obtain ⟨v, rfl, r⟩ := rx.one
    obtain rfl := r
    exact .inr ⟨_, rfl, k W H _ (Le.refl _) rep rfl⟩
  · cases h
/-- sum, of a list or of a tuple -/
def rSumT (K : PySem.W.Frag) : List V → Hp → VK → Prop := fun vs H Q => ∃ (a : Addr) (ns : List Int), vs = [V.ref a] ∧ SqT K H a (ns.map V.int) ∧ Q (.int ns.sum) H
theorem cr_sumT (hc : X.calm = true) : CallR X (.builtin "sum") (rSumT X.K) := by
  intro pins s σ H vs us Q I r h
  obtain ⟨a, ns, rfl, hs, q⟩ := h
  obtain ⟨its, rv, hl, _⟩ := I.tuple hs
  rw [Vals.ref1 r]
  have hi := rv.ints
  obtain ⟨xs, e⟩ := hi.allInts.items
  have hn : numsOf (intItems xs).toList = ns := by rw [← e]; exact hi.numsOf
  rw [nums_intItems] at hn
  rw [e] at hl
  refine PySem.W.ktm_sumG (I.ok.hd hc) hl fun h' tk t' hk => ?_
  rw [preSum_eq, List.take_of_length_le (by simp), hn]
  exact ⟨.int _, H, I.kept hk, ⟨_, rfl⟩, q⟩
def rSumQ (K : PySem.W.Frag) : List V → Hp → VK → Prop := fun vs H Q => rSum K vs H Q ∨ rSumT K vs H Q
theorem c_sum (hc : X.calm = true) : CallR X (.builtin "sum") (rSumQ X.K) := CallR.or (cr_sum hc) (cr_sumT hc)
def opSum (e : Env) (g : G) : List PV → Option PV
  | [p] => (asSeq e g p).bind fun q => (intsOf q.2).map fun ns => .int ns.sum
  | _ => none
theorem sq_ints {K : PySem.W.Frag} {R : Hp} {W0 W : Wd} {g : G} {e : Env} {σ : L2.St} {H : Hp} {p : PV} {v : V} {z : PV} {α : Type} {f : PV → List PV → Option α} {F : List Int → PV} (rep : Rep K R W0 W g e σ H) (r : RepT K W e σ p v) (h : ((asSeq e g p).bind fun q => (intsOf q.2).map F) = some z) :
    ∃ a ns, v = .ref a ∧ z = F ns ∧ (SqL K H a (ns.map V.int) ∨ SqT K H a (ns.map V.int)) := by
  cases hq : asSeq e g p with
  | none => rw [hq] at h; cases h
  | some kx =>
    obtain ⟨b, ys⟩ := kx
    rw [hq] at h
    obtain ⟨a, us, rfl, h1, h2, h3⟩ := asSeq_rep rep r hq
    have h : (intsOf ys).map F = some z := h
    cases hi : intsOf ys with
    | none => rw [hi] at h; cases h
    | some ns =>
      rw [hi] at h; cases h
      obtain rfl := intsOf_rep hi h2
      refine ⟨a, ns, rfl, rfl, ?_⟩
      revert h1; cases b with
      | true => exact .inl
      | false => exact .inr
theorem s_sum {K : PySem.W.Frag} : CallS K (rSumQ K) opSum := by
  intro R W0 W g e σ H xs z vs Q rep rx h k
  unfold opSum at h
  split at h
  · obtain ⟨v, rfl, r⟩ := rx.one
    obtain ⟨a, ns, rfl, rfl, hs⟩ := sq_ints (α := Unit) (f := fun _ _ => none) rep r h
    rcases hs with hs | hs
    · exact .inl ⟨a, ns, rfl, hs, k W H _ (Le.refl _) rep rfl⟩
    · exact .inr ⟨a, ns, rfl, hs, k W H _ (Le.refl _) rep rfl⟩
  · cases h
/-- max, min -/
theorem dpInts (K : PySem.W.Frag) (H : Hp) : ∀ ns : List Int, DpAll K H (ns.map V.int) (ns.map PyData.int)
  | [] => .nil
  | n :: ns => .cons (.int n) (dpInts K H ns)
theorem alikeInts (ns : List Int) : PySem.W.AlikeAll (ns.map PyData.int) := by
  refine ⟨fun x hx y hy => ?_, fun x hx => ?_⟩
  · obtain ⟨i, _, rfl⟩ := List.mem_map.mp hx
    obtain ⟨j, _, rfl⟩ := List.mem_map.mp hy
    rfl
  · obtain ⟨i, _, rfl⟩ := List.mem_map.mp hx
    exact fun h => by cases h
theorem reads_int {h : Heap} {v : Value} {n : Int} {bs : List Addr} (r : Reads h v (.int n) bs) : RelV (.int n) v := by
  cases r with
  | int i t => exact ⟨t, rfl⟩
def rMmT (K : PySem.W.Frag) (f : Int → Int → Int) : List V → Hp → VK → Prop := fun vs H Q => ∃ (a : Addr) (n : Int) (ns : List Int), vs = [V.ref a] ∧ (SqL K H a ((n :: ns).map V.int) ∨ SqT K H a ((n :: ns).map V.int)) ∧ Q (.int (ns.foldl f n)) H
theorem cr_maxT (hc : X.calm = true) (hu : X.A.units + 64 < cLine) : CallR X (.builtin "max") (rMmT X.K max) := by
  intro pins s σ H vs us Q I r h
  obtain ⟨a, n, ns, rfl, hs, q⟩ := h
  rw [Vals.ref1 r]
  have hd : ∀ {its : List Value}, Vals ((n :: ns).map V.int) its → ∃ as, ReadsAll s.heap its ((n :: ns).map PyData.int) as := fun rv => Dp.readsAll I _ _ _ (dpInts _ _ _) rv
  have hz : X.A.units + 1 + PyData.depthAll ((n :: ns).map PyData.int) < cLine := by rw [PySem.W.depth_ints]; omega
  rcases hs with hs | hs
  · obtain ⟨its, rv, hl, _⟩ := I.list hs
    obtain ⟨as, ra⟩ := hd rv
    refine PySem.W.max_list_data (I.ok.hd hc) hl.isList ra (alikeInts (n :: ns)) hz fun i v h' tk bs hv rd hk => ?_
    rw [PySem.W.maxD_ints] at rd
    exact ⟨.int _, H, I.kept hk, reads_int rd, q⟩
  · obtain ⟨its, rv, hl, _⟩ := I.tuple hs
    obtain ⟨as, ra⟩ := hd rv
    refine PySem.W.max_tuple_data (I.ok.hd hc) hl ra (alikeInts (n :: ns)) hz fun i v h' tk bs hv rd hk => ?_
    rw [PySem.W.maxD_ints] at rd
    exact ⟨.int _, H, I.kept hk, reads_int rd, q⟩
theorem cr_minT (hc : X.calm = true) (hu : X.A.units + 64 < cLine) : CallR X (.builtin "min") (rMmT X.K min) := by
  intro pins s σ H vs us Q I r h
  obtain ⟨a, n, ns, rfl, hs, q⟩ := h
  rw [Vals.ref1 r]
  have hd : ∀ {its : List Value}, Vals ((n :: ns).map V.int) its → ∃ as, ReadsAll s.heap its ((n :: ns).map PyData.int) as := fun rv => Dp.readsAll I _ _ _ (dpInts _ _ _) rv
  have hz : X.A.units + 1 + PyData.depthAll ((n :: ns).map PyData.int) < cLine := by rw [PySem.W.depth_ints]; omega
  rcases hs with hs | hs
  · obtain ⟨its, rv, hl, _⟩ := I.list hs
    obtain ⟨as, ra⟩ := hd rv
    refine PySem.W.min_list_data (I.ok.hd hc) hl.isList ra (alikeInts (n :: ns)) hz fun i v h' tk bs hv rd hk => ?_
    rw [PySem.W.minD_ints] at rd
    exact ⟨.int _, H, I.kept hk, reads_int rd, q⟩
  · obtain ⟨its, rv, hl, _⟩ := I.tuple hs
    obtain ⟨as, ra⟩ := hd rv
    refine PySem.W.min_tuple_data (I.ok.hd hc) hl ra (alikeInts (n :: ns)) hz fun i v h' tk bs hv rd hk => ?_
    rw [PySem.W.minD_ints] at rd
    exact ⟨.int _, H, I.kept hk, reads_int rd, q⟩
def rMaxQ (K : PySem.W.Frag) : List V → Hp → VK → Prop := fun xs H Q => (∃ i j, xs = [.int i, .int j] ∧ Q (.int (if j > i then j else i)) H) ∨ rMmT K max xs H Q
def rMinQ (K : PySem.W.Frag) : List V → Hp → VK → Prop := fun xs H Q => (∃ i j, xs = [.int i, .int j] ∧ Q (.int (if j < i then j else i)) H) ∨ rMmT K min xs H Q
theorem c_max (hc : X.calm = true) (hu : X.A.units + 64 < cLine) : CallR X (.builtin "max") (rMaxQ X.K) := CallR.or (call_max2 hc) (cr_maxT hc hu)
theorem c_min (hc : X.calm = true) (hu : X.A.units + 64 < cLine) : CallR X (.builtin "min") (rMinQ X.K) := CallR.or (call_min2 hc) (cr_minT hc hu)
def foldI (f : Int → Int → Int) : List Int → Option PV
  | [] => none
  | n :: ns => some (.int (ns.foldl f n))
def opMM (f : Int → Int → Int) (e : Env) (g : G) : List PV → Option PV
  | [.int i, .int j] => some (.int (f i j))
  | [p] => (asSeq e g p).bind fun q => (intsOf q.2).bind (foldI f)
  | _ => none
abbrev opMax := opMM max
abbrev opMin := opMM min
theorem mm_one {K : PySem.W.Frag} {R : Hp} {W0 W : Wd} {g : G} {e : Env} {σ : L2.St} {H : Hp} {p : PV} {v : V} {z : PV} {f : Int → Int → Int} (rep : Rep K R W0 W g e σ H) (r : RepT K W e σ p v) (h : ((asSeq e g p).bind fun q => (intsOf q.2).bind (foldI f)) = some z) :
    ∃ a n ns, v = .ref a ∧ z = .int (ns.foldl f n) ∧ (SqL K H a ((n :: ns).map V.int) ∨ SqT K H a ((n :: ns).map V.int)) := by
  cases hq : asSeq e g p with
  | none => rw [hq] at h; cases h
  | some kx =>
    obtain ⟨b, ys⟩ := kx
    rw [hq] at h
    obtain ⟨a, us, rfl, h1, h2, h3⟩ := asSeq_rep rep r hq
    have h : (intsOf ys).bind (foldI f) = some z := h
    cases hi : intsOf ys with
    | none => rw [hi] at h; cases h
    | some ns =>
      rw [hi] at h
      have h : foldI f ns = some z := h
      cases ns with
      | nil => cases h
      | cons n ns =>
        cases h
        obtain rfl := intsOf_rep hi h2
        refine ⟨a, n, ns, rfl, rfl, ?_⟩
        revert h1; cases b with
        | true => exact .inl
        | false => exact .inr
theorem s_max {K : PySem.W.Frag} : CallS K (rMaxQ K) opMax := by
  intro R W0 W g e σ H xs z vs Q rep rx h k
  unfold opMax opMM at h
  split at h
  · rename_i i j
    cases h
    obtain ⟨v, u, rfl, r1, r2⟩ := rx.two
    obtain rfl := r1
    obtain rfl := r2
    refine .inl ⟨_, _, rfl, ?_⟩
    have e : (if j > i then j else i) = max i j := by
      rw [Int.max_def]; split <;> split <;> omega
    rw [e]
    exact k W H _ (Le.refl _) rep rfl
  · obtain ⟨v, rfl, r⟩ := rx.one
    obtain ⟨a, n, ns, rfl, rfl, hs⟩ := mm_one rep r h
    exact .inr ⟨a, n, ns, rfl, hs, k W H _ (Le.refl _) rep rfl⟩
  · cases h
theorem s_min {K : PySem.W.Frag} : CallS K (rMinQ K) opMin := by
  intro R W0 W g e σ H xs z vs Q rep rx h k
  unfold opMin opMM at h
  split at h
  · rename_i i j
    cases h
    obtain ⟨v, u, rfl, r1, r2⟩ := rx.two
    obtain rfl := r1
    obtain rfl := r2
    refine .inl ⟨_, _, rfl, ?_⟩
    have e : (if j < i then j else i) = min i j := by
      rw [Int.min_def]; split <;> split <;> omega
    rw [e]
    exact k W H _ (Le.refl _) rep rfl
  · obtain ⟨v, rfl, r⟩ := rx.one
    obtain ⟨a, n, ns, rfl, rfl, hs⟩ := mm_one rep r h
    exact .inr ⟨a, n, ns, rfl, hs, k W H _ (Le.refl _) rep rfl⟩
  · cases h
/-- any, all, of a list of bools -/
theorem c_any (hc : X.calm = true) : CallR X (.builtin "any") (rAny X.K) := cr_any hc
theorem c_all (hc : X.calm = true) : CallR X (.builtin "all") (rAll X.K) := cr_all hc
def opAA (f : List Bool → Bool) (e : Env) (g : G) : List PV → Option PV
  | [p] => (asLst e g p).bind fun q => (blsOf q).map fun bs => .bl (f bs)
  | _ => none
def opAny := opAA fun bs => bs.any id
def opAll := opAA fun bs => bs.all id
theorem aa_one {K : PySem.W.Frag} {R : Hp} {W0 W : Wd} {g : G} {e : Env} {σ : L2.St} {H : Hp} {p : PV} {v : V} {z : PV} {f : List Bool → Bool} (rep : Rep K R W0 W g e σ H) (r : RepT K W e σ p v) (h : ((asLst e g p).bind fun q => (blsOf q).map fun bs => PV.bl (f bs)) = some z) :
    ∃ a bs, v = .ref a ∧ z = .bl (f bs) ∧ SqL K H a (bs.map V.bl) := by
  cases hq : asLst e g p with
  | none => rw [hq] at h; cases h
  | some ys =>
    rw [hq] at h
    obtain ⟨a, us, rfl, h1, h2, h3⟩ := asLst_rep rep r hq
    have h : (blsOf ys).map (fun bs => PV.bl (f bs)) = some z := h
    cases hi : blsOf ys with
    | none => rw [hi] at h; cases h
    | some ns =>
      rw [hi] at h; cases h
      obtain rfl := blsOf_rep hi h2
      exact ⟨a, ns, rfl, rfl, SqL.of h1⟩
theorem s_any {K : PySem.W.Frag} : CallS K (rAny K) opAny := by
  intro R W0 W g e σ H xs z vs Q rep rx h k
  unfold opAny opAA at h
  split at h
  · obtain ⟨v, rfl, r⟩ := rx.one
    obtain ⟨a, bs, rfl, rfl, hs⟩ := aa_one rep r h
    exact ⟨a, bs, rfl, hs, k W H _ (Le.refl _) rep rfl⟩
  · cases h
theorem s_all {K : PySem.W.Frag} : CallS K (rAll K) opAll := by
  intro R W0 W g e σ H xs z vs Q rep rx h k
  unfold opAll opAA at h
  split at h
  · obtain ⟨v, rfl, r⟩ := rx.one
    obtain ⟨a, bs, rfl, rfl, hs⟩ := aa_one rep r h
    exact ⟨a, bs, rfl, hs, k W H _ (Le.refl _) rep rfl⟩
  · cases h
/-! sorted -/
def dl (p : PV) : PyData := toD p
def sortedOk (xs : List PV) : Bool := pureDs 60 xs && (xs.all fun a => xs.all fun b => PySem.W.alike (toD a) (toD b)) && ((xs.all fun a => match a with
  | .tup (_ :: _) => true
  | _ => false) || (xs.all fun a => match a with
  | .tup _ => false
  | .non => false
  | _ => true))
def sortPV (xs : List PV) : List PV := xs.mergeSort (PySem.W.dataLe false toD)
def rSortD (K : PySem.W.Frag) : List V → Hp → VK → Prop := fun vs H Q => ∃ (a : Addr) (us : List V) (xs : List PV), vs = [V.ref a] ∧ SqL K H a us ∧ us.length = xs.length ∧ DpAll K H us (toDs xs) ∧ sortedOk xs = true ∧
  ∀ (p : Addr), H p = none → Q (.ref p) (upd H p (.lst (((us.zip xs).mergeSort (PySem.W.dataLe false fun q => toD q.2)).map (·.1))))
theorem alike_toD {xs : List PV} (h : sortedOk xs = true) : PySem.W.AllAlike (xs.map toD) := by
  unfold sortedOk at h
  simp only [Bool.and_eq_true, List.all_eq_true] at h
  intro d hd d' hd'
  obtain ⟨a, ha, rfl⟩ := List.mem_map.mp hd
  obtain ⟨b, hb, rfl⟩ := List.mem_map.mp hd'
  exact h.1.2 a ha b hb
theorem sortable_toD {xs : List PV} (h : sortedOk xs = true) : PySem.W.Sortable (xs.map toD) := by
  unfold sortedOk at h
  simp only [Bool.and_eq_true, Bool.or_eq_true, List.all_eq_true] at h
  have h0 := h.1.1
  rw [pureDs_all, List.all_eq_true] at h0
  rcases h.2 with h | h
  · refine .inl fun d hd => ?_
    obtain ⟨a, ha, rfl⟩ := List.mem_map.mp hd
    have := h a ha
    cases a with
    | tup ys =>
      cases ys with
      | nil => cases this
      | cons y ys => exact ⟨toD y, toDs ys, rfl⟩
    | _ => cases this
  · refine .inr fun d hd => ?_
    obtain ⟨a, ha, rfl⟩ := List.mem_map.mp hd
    have h1 := h a ha
    have h2 := h0 a ha
    cases a with
    | tup ys => cases h1
    | non => cases h1
    | ref _ => unfold pureD at h2; cases h2
    | scr _ => unfold pureD at h2; cases h2
    | bor _ => unfold pureD at h2; cases h2
    | ext _ => unfold pureD at h2; cases h2
    | _ => exact ⟨fun z => (by cases z), fun ys z => (by cases z)⟩
theorem each_of {K : PySem.W.Frag} {X : Cx} {pins : List (Addr × Obj)} {σ : L2.St} {H : Hp} {s : Shared} (I : Inv X pins σ H s) : ∀ {us : List V} {xs : List PV} {vs : List Value}, DpAll X.K H us (toDs xs) → Vals us vs →
    PySem.W.EachIs (fun (v : Value) (q : V × PV) => RelV q.1 v) vs (us.zip xs) ∧ PySem.W.EachIs (fun (v : Value) (q : V × PV) => ∃ as, Reads s.heap v (toD q.2) as) vs (us.zip xs)
  | [], [], _, _, rv => by cases rv; exact ⟨.nil, .nil⟩
  | [], _ :: _, _, h, _ => by cases h
  | _ :: _, [], _, h, _ => by cases h
  | u :: us, x :: xs, _, h, rv => by
    cases rv with
    | cons r1 r2 =>
      cases h with
      | cons h1 h2 =>
        obtain ⟨e1, e2⟩ := each_of (K := K) I h2 r2
        exact ⟨.cons r1 e1, .cons (Dp.reads I _ _ _ h1 r1) e2⟩
theorem each_vals : ∀ {vs : List Value} {qs : List (V × PV)}, PySem.W.EachIs (fun (v : Value) (q : V × PV) => RelV q.1 v) vs qs → Vals (qs.map (·.1)) vs
  | _, _, .nil => .nil
  | _, _, .cons h t => .cons h (each_vals t)
theorem c_sorted (hu : X.A.units + 128 < cLine) : CallR X (.builtin "sorted") (rSortD X.K) := by
  intro pins s σ H vs us Q I r h
  obtain ⟨a, ws, xs, rfl, hs, hl, hd, hok, q⟩ := h
  rw [Vals.ref1 r]
  obtain ⟨its, rv, hli, hz⟩ := I.list hs
  obtain ⟨e1, e2⟩ := each_of (K := X.K) I hd rv
  have hm : (ws.zip xs).map (fun q => toD q.2) = xs.map toD := by
    rw [show (fun q : V × PV => toD q.2) = toD ∘ Prod.snd from rfl, ← List.map_map, List.map_snd_zip (by omega)]
  have h0 := hok
  unfold sortedOk at h0
  simp only [Bool.and_eq_true] at h0
  have hp := h0.1.1
  rw [pureDs_all, List.all_eq_true] at hp
  refine PySem.W.sorted_data (enc := fun q : V × PV => toD q.2) hli.isList e1 e2 (by rw [hm]; exact alike_toD hok) (by rw [hm]; exact sortable_toD hok) (by rw [List.length_zip]; omega) (fun b hb => ?_) fun out ho he => ?_
  · have := toD_depth 60 b.2 (hp _ (List.of_mem_zip hb).2)
    omega
  · obtain ⟨ep, he'⟩ := PyProof.Rows.sortedAll_at s.heap its out.toArray
    have hv := each_vals he
    have hlen : (((ws.zip xs).mergeSort (PySem.W.dataLe false fun q => toD q.2)).map (·.1)).length ≤ sizeLine := by
      rw [List.length_map, List.length_mergeSort, List.length_zip]; omega
    exact ⟨.ref _, _, I.laid (t' := s.toks) (o := .lst (((ws.zip xs).mergeSort (PySem.W.dataLe false fun q => toD q.2)).map (·.1))) (fun _ _ => PyProof.Rows.sortedAll_old) (Nat.le_succ _) ⟨hlen, out, ep, hv, he'⟩, rfl, q _ (I.hok.fresh (Nat.le_succ _))⟩
def opSorted (e : Env) (g : G) : List PV → Option (List PV)
  | [p] => (asLst e g p).bind fun xs => if sortedOk xs then some (sortPV xs) else none
  | _ => none
theorem zip_reps {K : PySem.W.Frag} {W : Wd} : ∀ {qs : List (V × PV)}, (∀ q ∈ qs, RepV K W q.2 q.1) → RepVs K W (qs.map (·.2)) (qs.map (·.1))
  | [], _ => rfl
  | q :: qs, h => ⟨_, _, rfl, h q (by simp), zip_reps fun q' hq => h q' (by simp [hq])⟩
theorem reps_zip {K : PySem.W.Frag} {W : Wd} : ∀ {xs : List PV} {us : List V}, RepVs K W xs us → ∀ q ∈ us.zip xs, RepV K W q.2 q.1
  | [], us, h, q, hq => by simp at hq
  | x :: xs, us, ⟨w, ws, e, r, rs⟩, q, hq => by
    subst e
    rw [List.zip_cons_cons] at hq
    rcases List.mem_cons.mp hq with rfl | hq
    · exact r
    · exact reps_zip rs q hq
theorem f_sorted {K : PySem.W.Frag} : CallF K (rSortD K) opSorted := by
  intro R W0 W g e σ H xs z vs Q rep rx h k
  unfold opSorted at h
  split at h
  · rename_i p
    obtain ⟨v, rfl, r⟩ := rx.one
    cases hq : asLst e g p with
    | none => rw [hq] at h; cases h
    | some ys =>
      rw [hq] at h
      have h : (if sortedOk ys = true then some (sortPV ys) else none) = some z := h
      split at h
      · rename_i hok
        cases h
        obtain ⟨a, us, rfl, h1, h2, h3⟩ := asLst_rep rep r hq
        have h0 := hok
        unfold sortedOk at h0
        simp only [Bool.and_eq_true] at h0
        refine ⟨a, us, ys, rfl, SqL.of h1, h2.length, RepVs.dp rep.toRepG 60 _ _ h0.1.1 h2, hok, fun p hp => ?_⟩
        have hl : (((us.zip ys).mergeSort (PySem.W.dataLe false fun q => toD q.2)).map (·.1)).length ≤ sizeLine := by
          rw [List.length_map, List.length_mergeSort, List.length_zip]; omega
        obtain ⟨r2, hW, hR⟩ := rep.newLst (u := .lst (((us.zip ys).mergeSort (PySem.W.dataLe false fun q => toD q.2)).map (·.1))) hp
        refine k W _ p _ (Le.refl _) r2 hW hR upd_same ?_ hl
        have e1 : sortPV ys = ((us.zip ys).mergeSort (PySem.W.dataLe false fun q => toD q.2)).map (·.2) := by
          have q := List.map_mergeSort (r := PySem.W.dataLe false fun q : V × PV => toD q.2) (s := PySem.W.dataLe false toD) (f := fun q : V × PV => q.2) (l := us.zip ys) (fun a _ b _ => rfl)
          rw [List.map_snd_zip (by have := h2.length; omega)] at q
          exact q.symm
        rw [e1]
        exact zip_reps fun q hq => reps_zip h2 q (List.mem_mergeSort.mp hq)
      · cases h
  · cases h
end
end Q

namespace Q
open PySem L2

/-! ## defs -/
def NoOw (W : Wd) : Prop := ∀ a i, W a ≠ some (.ow i)
/-- what a callee must leave alone: all but the store -/
noncomputable def protW (W : Wd) (H : Hp) : Hp := fun a => open Classical in if ∃ n, W a = some (.gl n) then none else H a
def dropW (W : Wd) : Wd := fun a => match W a with
  | some (.ow _) => none
  | o => o
/-- behind a call: the caller's own ones again -/
def backW (W W' : Wd) : Wd := fun a => match W a with
  | some (.ow i) => some (.ow i)
  | _ => W' a
theorem dropW_no (W : Wd) : NoOw (dropW W) := fun a i h => by
  unfold dropW at h
  split at h
  · cases h
  · rename_i q; exact q i h
theorem dropW_some {W : Wd} {a : Addr} {k : Knd} (h : dropW W a = some k) : W a = some k ∧ ∀ i, k ≠ .ow i := by
  have n := dropW_no W a
  have h0 := h
  unfold dropW at h
  split at h
  · cases h
  · exact ⟨h, fun i z => n i (by rw [h0, z])⟩
theorem dropW_le (W : Wd) : Le W (dropW W) := fun a k e n => by
  unfold dropW
  split
  · rename_i i q; rw [q] at e; cases e; exact absurd rfl (n i)
  · exact e
theorem dropW_of {W : Wd} {a : Addr} {k : Knd} (h : W a = some k) (n : ∀ i, k ≠ .ow i) : dropW W a = some k := dropW_le W a k h n
theorem protW_some {W : Wd} {H : Hp} {a : Addr} {o : HO} (h : protW W H a = some o) : H a = some o ∧ ∀ n, W a ≠ some (.gl n) := by
  unfold protW at h
  split at h
  · cases h
  · rename_i q; exact ⟨h, fun n z => q ⟨n, z⟩⟩
theorem protW_of {W : Wd} {H : Hp} {a : Addr} {o : HO} (h : H a = some o) (n : ∀ n, W a ≠ some (.gl n)) : protW W H a = some o := by
  unfold protW
  rw [if_neg (fun ⟨m, z⟩ => n m z)]; exact h
theorem protW_none {W : Wd} {H : Hp} {a : Addr} (h : protW W H a = none) : (∃ n, W a = some (.gl n)) ∨ H a = none := by
  unfold protW at h
  split at h
  · rename_i q; exact .inl q
  · exact .inr h

section
variable {K : PySem.W.Frag} {R : Hp} {W0 W W' : Wd} {g g' : G} {e : Env} {σ : St} {H H' : Hp}
theorem RepG.drop (r : RepG K R W0 W g H) (hb : ∀ a o, R a = some o → dropW W a = W0 a) : RepG K R W0 (dropW W) g H := by
  refine ⟨r.prot, hb, fun a k h => r.dom a k (dropW_some h).1, fun a k vs h => r.fz a k vs (dropW_some h).1, fun a vs h => r.rd a vs (dropW_some h).1, fun a n h => ?_, fun a b n h1 h2 => r.uq a b n (dropW_some h1).1 (dropW_some h2).1, fun a i h => absurd h (dropW_no W a i)⟩
  obtain ⟨h1, o, h2, h3⟩ := r.gl a n (dropW_some h).1
  exact ⟨h1, o, h2, RepO.mono (dropW_le W) (fun _ q => q) h3⟩
/-- at the end of a body -/
theorem RepG.dropE (r : RepG K R W0 W g H) : RepG K R W0 (dropW W) g H := r.drop fun a o h => by
  have q := r.base a o h
  have n : ∀ i, W a ≠ some (.ow i) := fun i z => by have := r.ow a i z; rw [h] at this; cases this
  unfold dropW
  split
  · rename_i i q; exact absurd q (n i)
  · exact q
/-- into a call -/
theorem Rep.into (r : Rep K R W0 W g e σ H) : RepG K (protW (dropW W) H) (dropW W) (dropW W) g H := by
  refine ⟨fun a o h => (protW_some h).1, fun _ _ _ => rfl, fun a k h => r.dom a k (dropW_some h).1, fun a k vs h => r.fz a k vs (dropW_some h).1, fun a vs h => r.rd a vs (dropW_some h).1, fun a n h => ?_, fun a b n h1 h2 => r.uq a b n (dropW_some h1).1 (dropW_some h2).1, fun a i h => absurd h (dropW_no W a i)⟩
  obtain ⟨h1, o, h2, h3⟩ := r.gl a n (dropW_some h).1
  refine ⟨?_, o, h2, RepO.mono (dropW_le W) (fun _ q => q) h3⟩
  cases q : protW (dropW W) H a with
  | none => rfl
  | some u => exact absurd h ((protW_some q).2 n)
theorem backW_ow {W W' : Wd} {a : Addr} {i : Nat} (h : W a = some (.ow i)) : backW W W' a = some (.ow i) := by
  unfold backW; rw [h]
theorem backW_not {W W' : Wd} {a : Addr} (h : ∀ i, W a ≠ some (.ow i)) : backW W W' a = W' a := by
  unfold backW
  split
  · rename_i i q; exact absurd q (h i)
  · rfl
/-- behind a call -/
theorem Rep.back (r : Rep K R W0 W g e σ H) (l : Le (dropW W) W') (n : NoOw W') (r' : RepG K (protW (dropW W) H) (dropW W) W' g' H') : Rep K R W0 (backW W W') g' e σ H' ∧ Le W (backW W W') ∧ Le W' (backW W W') := by
  -- a caller's own one is not known to the callee
  have own : ∀ a i, W a = some (.ow i) → W' a = none ∧ ∀ o, H a = some o → H' a = some o := by
    intro a i h
    have hn : ∀ m, dropW W a ≠ some (.gl m) := fun m z => by
      have := (dropW_some z).1; rw [h] at this; cases this
    obtain ⟨o, ho⟩ := r.dom a _ h
    have hp := protW_of ho hn
    have hb := r'.base a o hp
    have hd : dropW W a = none := by unfold dropW; rw [h]
    refine ⟨by rw [hb, hd], fun u hu => r'.prot a u (protW_of hu hn)⟩
  have cs : ∀ a k, backW W W' a = some k → (∃ i, k = .ow i ∧ W a = some (.ow i)) ∨ (W' a = some k ∧ ∀ i, W a ≠ some (.ow i)) := by
    intro a k h
    by_cases hw : ∃ i, W a = some (.ow i)
    · obtain ⟨i, hi⟩ := hw
      rw [backW_ow hi] at h; cases h
      exact .inl ⟨i, rfl, hi⟩
    · have hw : ∀ i, W a ≠ some (.ow i) := fun i z => hw ⟨i, z⟩
      rw [backW_not hw] at h
      exact .inr ⟨h, hw⟩
  have le2 : Le W' (backW W W') := fun a k h hn => by
    by_cases hw : ∃ i, W a = some (.ow i)
    · obtain ⟨i, hi⟩ := hw
      rw [(own a i hi).1] at h; cases h
    · rw [backW_not fun i z => hw ⟨i, z⟩]; exact h
  have le1 : Le W (backW W W') := fun a k h hn => le2 a k (l a k (dropW_of h hn) hn) hn
  have prt : ∀ a o, R a = some o → H a = some o ∧ protW (dropW W) H a = some o := fun a o h => by
    have h1 := r.prot a o h
    refine ⟨h1, protW_of h1 fun n z => ?_⟩
    have := (r.gl a n (dropW_some z).1).1
    rw [h] at this; cases this
  refine ⟨⟨⟨fun a o h => r'.prot a o (prt a o h).2, fun a o h => ?_, fun a k h => ?_, fun a k vs h => ?_, fun a vs h => ?_, fun a m h => ?_, fun a b m h1 h2 => ?_, fun a i h => ?_⟩, r.len, fun i s hs => ?_⟩, le1, le2⟩
  · have nw : ∀ i, W a ≠ some (.ow i) := fun i z => by have := r.ow a i z; rw [h] at this; cases this
    rw [backW_not nw, r'.base a o (prt a o h).2, ← r.base a o h]
    unfold dropW
    split
    · rename_i i q; exact absurd q (nw i)
    · rfl
  · rcases cs a k h with ⟨i, rfl, hi⟩ | ⟨h', _⟩
    · obtain ⟨o, ho⟩ := r.dom a _ hi
      exact ⟨o, (own a i hi).2 o ho⟩
    · exact r'.dom a k h'
  · rcases cs a _ h with ⟨i, z, _⟩ | ⟨h', _⟩
    · cases z
    · exact r'.fz a k vs h'
  · rcases cs a _ h with ⟨i, z, _⟩ | ⟨h', _⟩
    · cases z
    · exact r'.rd a vs h'
  · rcases cs a _ h with ⟨i, z, _⟩ | ⟨h', _⟩
    · cases z
    · obtain ⟨h1, o, h2, h3⟩ := r'.gl a m h'
      refine ⟨?_, o, h2, RepO.mono le2 (fun _ q => q) h3⟩
      cases q : R a with
      | none => rfl
      | some u =>
        have := (prt a u q).2
        rw [h1] at this; cases this
  · rcases cs a _ h1 with ⟨i, z, _⟩ | ⟨h1', _⟩
    · cases z
    · rcases cs b _ h2 with ⟨i, z, _⟩ | ⟨h2', _⟩
      · cases z
      · exact r'.uq a b m h1' h2'
  · rcases cs a _ h with ⟨j, z, hj⟩ | ⟨h', _⟩
    · exact r.ow a j hj
    · exact absurd h' (n a i)
  · exact (r.slot i s hs).mono le1 (fun a q => backW_ow q) (fun a u q z => (own a i q).2 u z)
theorem RepX.mono {mg : MG} {x : Exn} {cls : Value} {d : Option Addr} (l : Le W W') (h : RepX mg K W x cls d H) : RepX mg K W' x cls d H := by
  obtain ⟨h1, h2, h3⟩ := h
  refine ⟨h1, h2, fun z => ?_⟩
  obtain ⟨dx, ws, a, b, c, d⟩ := h3 z
  exact ⟨dx, ws, a, b, c, RepVs.mono l _ _ d⟩
end

/-- what a def promises -/
def OcC (mg : MG) (K : PySem.W.Frag) (R : Hp) (W0 W : Wd) (r : Res PV) (Q : VK) (E : XK) : Prop :=
  match r with
  | .ok p g' => ∀ W' H' v, Le W W' → NoOw W' → RepG K R W0 W' g' H' → RepV K W' p v → Q v H'
  | .exc x g' => ∀ W' H' cls d, Le W W' → NoOw W' → RepG K R W0 W' g' H' → RepX mg K W' x cls d H' → E cls d H'
  | .bad => False
theorem repTs_none {α : Type} {F : List PV → G → Res α} {n : Nat} (h : ∀ ps g, ps.length ≠ n → F ps g = .bad) {ps : List PV} {g : G} (q : F ps g ≠ .bad) : ps.length = n := by
  by_cases z : ps.length = n
  · exact z
  · exact absurd (h ps g z) q
def spQ (mg : MG) (K : PySem.W.Frag) (n : Nat) (F : Fn) : Sp := fun vs H Q E => vs.length = n ∧ ∃ W g ps, NoOw W ∧ RepG K (protW W H) W W g H ∧ RepVs K W ps vs ∧ OcC mg K (protW W H) W W (F ps g) Q E

def start' (N : Nat) (ps : List PV) : Env := ps.map .val ++ List.replicate (N - ps.length) .un
def mkFn (n N : Nat) (body : SS) : Fn := fun ps g => if Nat.beq ps.length n then match body (start' N ps) g with
  | .nx _ g' => .ok .non g'
  | .rt v g' => .ok v g'
  | .exc x _ g' => .exc x g'
  | _ => .bad
  else .bad
theorem repVs_get' {K : PySem.W.Frag} {W : Wd} : ∀ {ps : List PV} {vs : List V}, RepVs K W ps vs → ∀ (i : Nat) (p : PV), ps[i]? = some p → ∃ v, vs[i]? = some v ∧ RepV K W p v := fun r i p h => r.get h

section
variable {P : Program} {w : World} {K : PySem.W.Frag} {mg : Str → Option Value} {base : Heap}
theorem fn_q {x qual : Str} {st : Stmt} {f : Addr} {fd : FuncData} {N ps : List Str} {k : Nat} {body : SS} (F : Fun K x qual st f fd) (S : FnScope N ps (defScope st))
    (hbody : ∀ (cdv : Value) (A : Around) (outer : List PySem.Env) (s : Shared) (H : Hp) (E : XK), Room k (A.deeper (PyProof.Rows.envOfC qual (defScope st) s.heap.objs.size f cdv)) →
      QSs (cxOf (L2.CX P w) P w K mg base N qual (defScope st) f cdv A outer s H E) (fun cls d _ H => E cls d H) (defBody st) body) :
    FnOk P w K mg base (L2.CX P w) (k + 1) f fd ps (spQ mg K ps.length (mkFn ps.length N.length body)) := by
  refine F.okX S (fun vs H Q E h => h.1) (fun cdv A outer s H vs Q E hr h => ⟨_, hbody cdv A outer s H E hr, ?_⟩)
  obtain ⟨hl, W, g, qs, nw, rg, rv, oc⟩ := h
  have hlq := rv.length
  have hp : ps.length ≤ N.length := by have := congrArg List.length S.pre; rw [List.length_take] at this; omega
  refine ⟨protW W H, W, W, g, start' N.length qs, ⟨rg, ?_, fun i s hs => ?_⟩, ?_⟩
  · unfold start' L2.start
    simp only [List.length_append, List.length_map, List.length_replicate]; omega
  · unfold start' at hs
    by_cases hi : i < qs.length
    · rw [List.getElem?_append_left (by simpa using hi), List.getElem?_map] at hs
      cases hq : qs[i]? with
      | none => rw [hq] at hs; cases hs
      | some p =>
        rw [hq] at hs; cases hs
        obtain ⟨v, hv, hr⟩ := rv.get hq
        refine ⟨v, ?_, hr⟩
        unfold L2.start
        rw [List.getElem?_append_left (by simp; omega), List.getElem?_map, hv]; rfl
    · rw [List.getElem?_append_right (by simp; omega), List.getElem?_replicate] at hs
      split at hs
      · cases hs; trivial
      · cases hs
  · unfold mkFn at oc
    rw [if_pos (by rw [← hlq, hl]; exact Nat.beq_refl _)] at oc
    cases hb : body (start' N.length qs) g with
    | nx e' g' =>
      rw [hb] at oc
      exact fun W' σ' H' l rep => oc _ _ _ (l.trans (dropW_le W')) (dropW_no W') rep.toRepG.dropE rfl
    | rt v g' =>
      rw [hb] at oc
      exact fun W' u H' l rep ru => oc _ _ _ (l.trans (dropW_le W')) (dropW_no W') rep.dropE (RepV.mono (dropW_le W') _ _ ru)
    | exc z e' g' =>
      rw [hb] at oc
      exact fun W' σ' H' cls d l rep rx => oc _ _ _ _ (l.trans (dropW_le W')) (dropW_no W') rep.toRepG.dropE (rx.mono (dropW_le W'))
    | bk e' g' => rw [hb] at oc; exact oc.elim
    | ct e' g' => rw [hb] at oc; exact oc.elim
    | bad => rw [hb] at oc; exact oc.elim

/-- a def that may be called by its name -/
structure Prom (P : Program) (w : World) (K : PySem.W.Frag) (mg : Str → Option Value) (base : Heap) (k : Nat) (x : Str) (n : Nat) (F : Fn) : Prop where
  ex : ∃ (f : Addr) (fd : FuncData) (ps : List Str), FnOk P w K mg base (L2.CX P w) k f fd ps (spQ mg K n F) ∧ mg x = some (.ref f) ∧ PySem.W.keepIn K (.ref f) = true ∧ Binds K fd ps []
  len : ∀ ps g, ps.length ≠ n → F ps g = .bad
theorem Prom.mono {j k n : Nat} {x : Str} {F : Fn} (h : Prom P w K mg base j x n F) (l : j ≤ k) : Prom P w K mg base k x n F := by
  obtain ⟨f, fd, ps, h1, h2⟩ := h.ex
  exact ⟨⟨f, fd, ps, h1.mono l, h2⟩, h.len⟩
/-- what the top has written of a def -/
structure At (K : PySem.W.Frag) (mg : Str → Option Value) (x : Str) (st : Stmt) (ps : List Str) : Prop where
  ex : ∃ (f : Addr) (fd : FuncData), Fun K x x st f fd ∧ mg x = some (.ref f) ∧ PySem.W.keepIn K (.ref f) = true ∧ Binds K fd ps []
theorem prom {x : Str} {st : Stmt} {N ps : List Str} {k : Nat} {body : SS} (T : At K mg x st ps) (S : FnScope N ps (defScope st))
    (hbody : ∀ (f : Addr) (cdv : Value) (A : Around) (outer : List PySem.Env) (s : Shared) (H : Hp) (E : XK), Room k (A.deeper (PyProof.Rows.envOfC x (defScope st) s.heap.objs.size f cdv)) →
      QSs (cxOf (L2.CX P w) P w K mg base N x (defScope st) f cdv A outer s H E) (fun cls d _ H => E cls d H) (defBody st) body) : Prom P w K mg base (k + 1) x ps.length (mkFn ps.length N.length body) := by
  obtain ⟨f, fd, h1, h2, h3, h4⟩ := T.ex
  refine ⟨⟨f, fd, ps, fn_q h1 S (hbody f), h2, h3, h4⟩, fun qs g h => ?_⟩
  unfold mkFn
  rw [if_neg (fun z => h (Nat.eq_of_beq_eq_true z))]
/-- nothing promised -/
def noFn : Fn := fun _ _ => .bad
theorem prom0 {x : Str} {st : Stmt} {ps : List Str} {k n : Nat} (T : At K mg x st ps) : Prom P w K mg base k x n noFn := by
  obtain ⟨f, fd, h1, h2, h3, h4⟩ := T.ex
  refine ⟨⟨f, fd, ps, ⟨fun vs H Q E h => ?_, fun A outer s H args us vs Q E _ _ _ _ h => ?_⟩, h2, h3, h4⟩, fun _ _ _ => rfl⟩
  · obtain ⟨_, _, _, _, _, _, _, h⟩ := h; exact h.elim
  · obtain ⟨_, _, _, _, _, _, _, h⟩ := h; exact h.elim
end

def PassQ (X : Cx) (wx : WX) : Prop := ∀ σ, PassesAt (L2.CX X.prog X.w) X σ (WE wx σ)
theorem passQ0 {X : Cx} : PassQ X wx0 := fun σ pins H s e s' I c => passL pins σ H s e s' I c
theorem passQ {P : Program} {w : World} {K : PySem.W.Frag} {mg : Str → Option Value} {base : Heap} {N : List Str} {qual : Str} {scope : Scope} {f : Addr} {cd : Value} {A : Around} {outer : List PySem.Env} {s : Shared} {H : Hp} {E : XK} :
    PassQ (cxOf (L2.CX P w) P w K mg base N qual scope f cd A outer s H E) (fun cls d _ H => E cls d H) := fun σ => passAt (takes_of rfl rfl rfl rfl) σ
def eCall (F : Fn) (f : EL) : EE := fun e g => (f e g).bind F
section
variable {X : Cx} {wx : WX} {x : Str} {p pos : Pos} {e : Expr} {es : List Expr} {k n : Nat} {F : Fn} {fk : EL}
theorem q_call (h : Prom X.prog X.w X.K X.mg X.base k x n F) (hr : Room k X.A) (hp : PassQ X wx) (ha : QA X wx (e :: es) fk) (hg : Gl X x := by rfl) (hdb : (x == ("__debug__" : Str)) = false := by decide)
    (he : starEach (e :: es) X.env = (false, eval e X.env) :: starEach es X.env := by rfl) (hpl : (backTo pos (starEach es X.env)).any (·.1) = false := by rfl) :
    QE X wx (.Call (.Name x p) (e :: es) [] pos) (eCall F fk) := by
  obtain ⟨f, fd, ps, h1, h2, h3, h4⟩ := h.ex
  refine PE.weak (pe_callSD (E := WE wx) h1 hr hg h2 h3 h4 .nil hp ha hdb he hpl) fun σ H Q ⟨R, W0, W, g, e, rep, q⟩ => ?_
  refine ⟨R, W0, W, g, e, rep, q.bind.imp fun qs W1 g1 H1 l1 rep1 q1 vs rv => ?_⟩
  show spQ X.mg X.K n F (vs ++ []) H1 Q (WE wx σ)
  rw [List.append_nil]
  refine ⟨?_, dropW W1, g1, qs, dropW_no W1, rep1.into, RepVs.mono (dropW_le W1) _ _ rv, ?_⟩
  · rw [rv.length]
    exact repTs_none h.len (fun z => by rw [z] at q1; exact q1)
  cases hF : F qs g1 with
  | ok z g2 =>
    rw [hF] at q1
    intro W2 H2 v l2 n2 rg rz
    obtain ⟨r3, l3, l4⟩ := rep1.back l2 n2 rg
    exact q1 _ _ l3 r3 v (RepV.mono l4 _ _ rz)
  | exc z g2 =>
    rw [hF] at q1
    intro W2 H2 cls d l2 n2 rg rz
    obtain ⟨r3, l3, l4⟩ := rep1.back l2 n2 rg
    exact q1 _ _ cls d l3 r3 (rz.mono l4)
  | bad => rw [hF] at q1; exact q1.elim
end
end Q

namespace Q
open PySem PySem.Spec PyProof.Rows L2

/-! ## iterators over lists and tuples, side by side -/
def ItK : Bool → Addr → Addr → Nat → Heap → Prop
  | true, it, a, i, h => h.IsListIter it a i
  | false, it, a, i, h => h.IsTupleIter it a i
def SqK : Bool → Heap → Addr → Array Value → Prop
  | true, h, a, vs => h.IsList a vs
  | false, h, a, vs => h.IsTuple a vs
theorem ItK.obj {k : Bool} {it a : Addr} {i : Nat} {h : Heap} (x : ItK k it a i h) : ∃ o, h.get? it = some o ∧ ∀ v, o.data ≠ .cell v := by
  cases k with
  | true =>
    obtain ⟨o, e, _, d⟩ := x
    exact ⟨o, e, fun v q => by rw [d] at q; cases q⟩
  | false =>
    obtain ⟨o, e, _, d⟩ := x
    exact ⟨o, e, fun v q => by rw [d] at q; cases q⟩
theorem ItK.lt {k : Bool} {it a : Addr} {i : Nat} {h : Heap} (x : ItK k it a i h) : it < h.objs.size := by
  obtain ⟨o, e, _⟩ := x.obj
  exact Heap.lt_size e
theorem ItK.at {k : Bool} {it a : Addr} {i : Nat} {h h' : Heap} (x : ItK k it a i h) (f : ∀ o, h.get? it = some o → h'.get? it = some o) : ItK k it a i h' := by
  cases k with
  | true => exact Heap.IsListIter.at x f
  | false => exact Heap.IsTupleIter.at x f
theorem SqK.lt' {k : Bool} {h : Heap} {a : Addr} {vs : Array Value} (x : SqK k h a vs) : a < h.objs.size := by
  cases k with
  | true => obtain ⟨o, e, _⟩ := x; exact Heap.lt_size e
  | false => obtain ⟨o, e, _⟩ := x; exact Heap.lt_size e
theorem drawK {P : Program} {w : World} {A : Around} (hh : A.handled = none) (k : Bool) (it a : Addr) (n : a ≠ it) (vs : Array Value) : Draws P w A it [it, a] vs.size (fun i v => vs[i]? = some v) (fun i h => ItK k it a i h ∧ SqK k h a vs) := by
  cases k with
  | true => exact Draws.list hh it a n vs
  | false => exact Draws.tuple hh it a n vs
def itO : Bool → Addr → Obj
  | true, a => { cls := .type "list_iterator", data := .fields #[.ref a, .int 0 0] }
  | false, a => { cls := .type "tuple_iterator", data := .fields #[.ref a, .int 0 0] }
theorem begK (k : Bool) (a : Addr) (vs : Array Value) : Begins (.ref a) (itO k a) fun h => SqK k h a vs := by
  cases k with
  | true => exact begins_list a vs
  | false => exact begins_tuple a vs
theorem begK_at {a it : Addr} {h : Heap} (k : Bool) (e : h.get? it = some (itO k a)) : ItK k it a 0 h := by
  cases k with
  | true => exact ⟨_, e, rfl, rfl⟩
  | false => exact ⟨_, e, rfl, rfl⟩
section
variable {X : Cx} {pins : List (Addr × Obj)} {σ : L2.St} {H : Hp} {s : Shared}
theorem _root_.L2.Inv.sqx (I : Inv X pins σ H s) {k : Bool} {a : Addr} {xs : List V} (h : SqX X.K H k a xs) : ∃ vs : List Value, Vals xs vs ∧ SqK k s.heap a vs.toArray := by
  cases k with
  | true => obtain ⟨its, r, p, _⟩ := I.list h; exact ⟨its, r, p.isList⟩
  | false => obtain ⟨its, r, p, _⟩ := I.tuple h; exact ⟨its, r, p⟩
theorem _root_.L2.Inv.sqx_inj (I : Inv X pins σ H s) {k : Bool} {a : Addr} {xs ys : List V} (h : SqX X.K H k a xs) (h' : SqX X.K H k a ys) : xs = ys := by
  cases k with
  | true => exact I.list_inj h h'
  | false => exact I.tuple_inj h h'
end

def IZ2 (K : PySem.W.Frag) (k1 k2 : Bool) (a1 a2 : Addr) : It :=
  ⟨fun i H => ∃ (l1 l2 : List V) (x1 x2 : V), SqX K H k1 a1 l1 ∧ l1[i]? = some x1 ∧ SqX K H k2 a2 l2 ∧ l2[i]? = some x2,
    fun i H v H' => ∃ (T : Addr) (x1 x2 : V), v = .ref T ∧ H T = none ∧ H' = upd H T (.tup [x1, x2]) ∧ (∀ l, SqX K H k1 a1 l → l[i]? = some x1) ∧ (∀ l, SqX K H k2 a2 l → l[i]? = some x2),
    fun i H => ∃ l1 l2 : List V, SqX K H k1 a1 l1 ∧ i ≤ l1.length ∧ SqX K H k2 a2 l2 ∧ i ≤ l2.length ∧ (i = l1.length ∨ i = l2.length)⟩
theorem turn_z2 {P : Program} {w : World} {K : PySem.W.Frag} {elts : List Expr} {kk : Nat} {tpos : Pos} {k1 k2 : Bool} {a1 a2 z TI TO i1 i2 : Addr} (D : ZipSep2 z TI TO i1 i2 [i1, a1] [i2, a2]) (n1 : a1 ≠ i1) (n2 : a2 ≠ i2) :
    Turn P w K (.Tuple elts kk tpos) (IZ2 K k1 k2 a1 a2) [z, TI, TO, i1, i2] z (fun i h => IsZip h z TI TO .none ∧ IsTupOf2 h TI (.ref i1) (.ref i2) ∧ (∃ b1 b2, IsTupOf2 h TO b1 b2) ∧ ItK k1 i1 a1 i h ∧ ItK k2 i2 a2 i h) where
  mem := by simp
  obj := fun i h st c hc => by
    obtain ⟨hz, hTI, ⟨b1, b2, hTO⟩, h1, h2⟩ := st
    have e' : c = z ∨ c = TI ∨ c = TO ∨ c = i1 ∨ c = i2 := by simpa using hc
    rcases e' with q | q | q | q | q
    · rw [q]; exact ⟨_, hz, fun v q => nomatch q⟩
    · rw [q]; exact ⟨_, hTI, fun v q => nomatch q⟩
    · rw [q]; exact ⟨_, hTO, fun v q => nomatch q⟩
    · rw [q]; exact h1.obj
    · rw [q]; exact h2.obj
  keep := fun i h h' st k => by
    obtain ⟨hz, hTI, ⟨b1, b2, hTO⟩, h1, h2⟩ := st
    exact ⟨k z (by simp) _ hz, k TI (by simp) _ hTI, ⟨b1, b2, k TO (by simp) _ hTO⟩, h1.at fun o q => k i1 (by simp) o q, h2.at fun o q => k i2 (by simp) o q⟩
  item := by
    intro X hP hw hK hc i pins s σ H E I hf st hg
    subst hP hw hK
    obtain ⟨hz, hTI, ⟨b1, b2, hTO⟩, h1, h2⟩ := st
    obtain ⟨l1, l2, x1, x2, q1, g1, q2, g2⟩ := hg
    obtain ⟨v1, r1, p1⟩ := I.sqx q1
    obtain ⟨u1, w1, t1⟩ := r1.get g1
    have m1 : i < v1.toArray.size := by rw [List.size_toArray]; exact (List.getElem?_eq_some_iff.mp w1).1
    obtain ⟨v2, r2, p2⟩ := I.sqx q2
    obtain ⟨u2, w2, t2⟩ := r2.get g2
    have m2 : i < v2.toArray.size := by rw [List.size_toArray]; exact (List.getElem?_eq_some_iff.mp w2).1
    have hzl : z < s.heap.objs.size := Heap.lt_size hz
    have c1 := h1.lt
    have c2 := h2.lt
    refine wpAny_pyNext_zipD2_item D (drawK (A := X.A.in1) (I.ok.hd hc) k1 i1 a1 n1 v1.toArray) (drawK (A := X.A.in1) (I.ok.hd hc) k2 i2 a2 n2 v2.toArray) hz hTI hTO ⟨h1, p1⟩ ⟨h2, p2⟩ m1 m2 fun y1 y2 h' tk d1 d2 b5 b6 e1 e2 b7 b8 hk => ?_
    obtain rfl : u1 = y1 := by
      have z1 : v1.toArray[i]? = some y1 := d1
      rw [List.getElem?_toArray, w1] at z1; cases z1; rfl
    obtain rfl : u2 = y2 := by
      have z1 : v2.toArray[i]? = some y2 := d2
      rw [List.getElem?_toArray, w2] at z1; cases z1; rfl
    refine ⟨_, rfl, wpAny_letOwnedTupleGo_zip (s := { s with heap := h', toks := tk }) b5 fun h'' z'' sb => ?_⟩
    have hT2 : h''.get? s.heap.objs.size = some { cls := .type "tuple", data := .seq #[u1, u2] } := (sb.2 _ (Nat.ne_of_gt hzl)).trans b7
    have new : ObjOk X.prog X.w (upd H s.heap.objs.size (.tup [x1, x2])) h'' s.heap.objs.size (.tup [x1, x2]) :=
      ⟨by show 2 ≤ sizeLine; decide, [u1, u2], .cons t1 (.cons t2 .nil), ⟨_, hT2, rfl, _, rfl⟩⟩
    have I1 : Inv X pins σ (upd H s.heap.objs.size (.tup [x1, x2])) { s with heap := h'', toks := tk } :=
      I.turnedNew (ch := [z, TI, TO, i1, i2]) (fun c o hb q => (sb.2 c (fun q' => hb (by simp [q']))).trans (hk c o (fun q' => hb (by simp [q'])) (fun q' => hb (by simp [q'])) (fun q' => hb (by simp [q'])) (fun q' => hb (by simp [q'])) q)) hf (Nat.le_refl _) new
    refine ⟨.ref s.heap.objs.size, _, I1, rfl, ⟨_, x1, x2, rfl, I.hok.fresh (Nat.le_refl _), rfl, fun l hl => by rw [I.sqx_inj hl q1]; exact g1, fun l hl => by rw [I.sqx_inj hl q2]; exact g2⟩, ⟨z'', ?_, ⟨u1, u2, ?_⟩, ?_, ?_⟩, fun c hcm => ?_⟩
    · exact (sb.2 _ D.TIz).trans (hk _ _ D.TIz D.TITO D.TIi1 D.TIi2 hTI)
    · exact (sb.2 _ D.TOz).trans b6
    · exact e1.1.at fun o q => (sb.2 _ (Ne.symm D.zi1)).trans q
    · exact e2.1.at fun o q => (sb.2 _ (Ne.symm D.zi2)).trans q
    · have hlt : c < s.heap.objs.size := by
        have e' : c = z ∨ c = TI ∨ c = TO ∨ c = i1 ∨ c = i2 := by simpa using hcm
        rcases e' with q | q | q | q | q
        · rw [q]; exact hzl
        · rw [q]; exact Heap.lt_size hTI
        · rw [q]; exact Heap.lt_size hTO
        · rw [q]; exact c1
        · rw [q]; exact c2
      rw [upd_ne (Nat.ne_of_lt hlt)]
      exact (hf c hcm).1
  done := by
    intro X hP hw hK hc i pins s σ H E I hf st hg
    subst hP hw hK
    obtain ⟨hz, hTI, ⟨b1, b2, hTO⟩, h1, h2⟩ := st
    obtain ⟨l1, l2, q1, g1, q2, g2, hend⟩ := hg
    obtain ⟨v1, r1, p1⟩ := I.sqx q1
    have w1 : l1.length = v1.toArray.size := by rw [List.size_toArray]; exact r1.length
    obtain ⟨v2, r2, p2⟩ := I.sqx q2
    have w2 : l2.length = v2.toArray.size := by rw [List.size_toArray]; exact r2.length
    exact wpAny_pyNext_zipD2_end D (drawK (A := X.A.in1) (I.ok.hd hc) k1 i1 a1 n1 v1.toArray) (drawK (A := X.A.in1) (I.ok.hd hc) k2 i2 a2 n2 v2.toArray) hz hTI hTO ⟨h1, p1⟩ ⟨h2, p2⟩ (w1 ▸ g1) (w2 ▸ g2) (by rw [← w1]; rw [← w2]; exact hend) fun h' tk hk => ⟨rfl, I.turnedL (ch := [z, TI, TO, i1, i2]) (fun c o hb q =>
      hk c o (fun q' => hb (by simp [q'])) (fun q' => hb (by simp [q'])) (fun q' => hb (by simp [q'])) (fun q' => hb (by simp [q'])) q) hf⟩
  self := fun A i s Q E st h => wpAny_pyIter_zip st.1 h
def iZ2 (K : PySem.W.Frag) (ta : TA) : TI := fun σ H R => ta σ H fun vs H1 => ∃ (a1 a2 : Addr) (k1 k2 : Bool), vs = [.ref a1, .ref a2] ∧ (∃ l, SqX K H1 k1 a1 l) ∧ (∃ l, SqX K H1 k2 a2 l) ∧ R (IZ2 K k1 k2 a1 a2) H1
theorem pi_z2 {X : Cx} {y1 y2 : Expr} {ta : TA} {p pos tpos : Pos} {elts : List Expr} {kk : Nat} (hg : Gl X "zip") (hm : X.mg "zip" = none) (ha : PA X [y1, y2] ta)
    (hs : starEach [y1, y2] X.env = (false, eval y1 X.env) :: starEach [y2] X.env := by rfl) (hpl : (backTo pos (starEach [y2] X.env)).any (·.1) = false := by rfl) :
    PI X (.Tuple elts kk tpos) (.Call (.Name "zip" p) [y1, y2] [] pos) (iZ2 X.K ta) := by
  refine ⟨fun pins s σ H R I h => ?_⟩
  refine Call_ (ld_blt I hg hm PyProof.Rows.boot_zip (PyProof.Rows.callWith_type1 (thn (ha.run pos pins s σ H _ I h) fun us s1 ⟨vs, H1, I1, r1, q1⟩ => ?_) hs hpl))
  obtain ⟨a1, a2, k1, k2, ex, ⟨l1, q1⟩, ⟨l2, q2⟩, q⟩ := q1
  subst ex
  obtain rfl : us = [.ref a1, .ref a2] := by
    cases r1 with
    | cons z1 r1 =>
      cases z1
      cases r1 with
      | cons z2 r1 =>
        cases z2
        cases r1; rfl
  obtain ⟨v1, r1, p1⟩ := I1.sqx q1
  have n1 := p1.lt'
  obtain ⟨v2, r2, p2⟩ := I1.sqx q2
  have n2 := p2.lt'
  refine zip_begins2 (begK k1 a1 v1.toArray) (begK k2 a2 v2.toArray) p1 p2 fun h' hz hTI hTO j1 j2 hsz hk => wpAny_pyIter_zip hz ?_
  have I2 : Inv X pins σ H1 { s1 with heap := h' } := I1.kept (t' := s1.toks) hk
  refine ⟨s1.heap.objs.size + 4, [s1.heap.objs.size + 4, s1.heap.objs.size + 2, s1.heap.objs.size + 3, s1.heap.objs.size, s1.heap.objs.size + 1], _, _, H1, rfl, I2, turn_z2 (zip_sep2 (N := s1.heap.objs.size) (fp1 := [a1]) (fp2 := [a2]) (fun b hb => by rw [List.mem_singleton.mp hb]; exact n1) (fun b hb => by rw [List.mem_singleton.mp hb]; exact n2)) (Nat.ne_of_lt (n1)) (Nat.ne_of_lt (Nat.lt_of_lt_of_le n2 (Nat.le_add_right _ _))), ⟨hz, hTI, ⟨_, _, hTO⟩, begK_at k1 j1, begK_at k2 j2⟩, fun c hcm => ?_, q⟩
  have hle : s1.heap.objs.size ≤ c := by
    have e' : c = s1.heap.objs.size + 4 ∨ c = s1.heap.objs.size + 2 ∨ c = s1.heap.objs.size + 3 ∨ c = s1.heap.objs.size ∨ c = s1.heap.objs.size + 1 := by simpa using hcm
    rcases e' with e | e | e | e | e <;> subst e <;> first | exact Nat.le_refl _ | exact Nat.le_add_right _ _
  exact I1.fpOk hle (I1.hok.fresh hle)
def zipP2 (l1 l2 : List PV) : List PV := List.zipWith (fun x1 x2 => .tup [x1, x2]) l1 l2
def iZip2 (f : EL) : EL := fun e g => (f e g).bind fun ps g1 => match ps with
  | [p1, p2] => (match frSeq p1, frSeq p2 with
    | some l1, some l2 => .ok (zipP2 l1 l2) g1
    | _, _ => .bad)
  | _ => .bad
theorem zipP2_get {l1 l2 : List PV} {i : Nat} {x1 x2 : PV} (h1 : l1[i]? = some x1) (h2 : l2[i]? = some x2) : (zipP2 l1 l2)[i]? = some (.tup [x1, x2]) := by
  unfold zipP2; rw [List.getElem?_zipWith, h1, h2]
theorem zipP2_len (l1 l2 : List PV) : (zipP2 l1 l2).length = min l1.length l2.length := by unfold zipP2; simp
theorem itOk_zip2 {K : PySem.W.Frag} {R0 : Hp} {W00 W : Wd} {g0 : G} {e0 : Env} {σ0 : L2.St} {H0 : Hp} (rep0 : Rep K R0 W00 W g0 e0 σ0 H0) {k1 k2 : Bool} {a1 a2 : Addr} {l1 l2 : List PV} (h1 : SqW K W k1 a1 l1) (h2 : SqW K W k2 a2 l2) : ItOk K W (zipP2 l1 l2) (IZ2 K k1 k2 a1 a2) := by
  have hl := zipP2_len l1 l2
  refine ⟨?_, fun R W0 W1 g e σ H i l r hi => ?_, fun R W0 W1 g e σ H l r => ?_, fun R W0 W1 g e σ H i x H' l r hi y => ?_⟩
  · obtain ⟨vs, g1, g2⟩ := h1
    have z1 := (g1.sq rep0.toRepG).2
    have z2 := g2.length
    omega
  · obtain ⟨v1, f1, d1⟩ := h1.mono l
    obtain ⟨v2, f2, d2⟩ := h2.mono l
    have z1 := d1.length
    have z2 := d2.length
    obtain ⟨u1, w1, t1⟩ := d1.get (List.getElem?_eq_getElem (show i < l1.length by omega))
    obtain ⟨u2, w2, t2⟩ := d2.get (List.getElem?_eq_getElem (show i < l2.length by omega))
    exact ⟨v1, v2, u1, u2, (f1.sq r.toRepG).1, w1, (f2.sq r.toRepG).1, w2⟩
  · obtain ⟨v1, f1, d1⟩ := h1.mono l
    obtain ⟨v2, f2, d2⟩ := h2.mono l
    have z1 := d1.length
    have z2 := d2.length
    exact ⟨v1, v2, (f1.sq r.toRepG).1, by omega, (f2.sq r.toRepG).1, by omega, by omega⟩
  · obtain ⟨v1, f1, d1⟩ := h1.mono l
    obtain ⟨v2, f2, d2⟩ := h2.mono l
    have j1 : i < l1.length := by omega
    obtain ⟨u1, w1, t1⟩ := d1.get (List.getElem?_eq_getElem j1)
    have j2 : i < l2.length := by omega
    obtain ⟨u2, w2, t2⟩ := d2.get (List.getElem?_eq_getElem j2)
    obtain ⟨T, x1, x2, rfl, hT, rfl, m1, m2⟩ := y
    have n1 := m1 v1 (f1.sq r.toRepG).1
    rw [w1] at n1; cases n1
    have n2 := m2 v2 (f2.sq r.toRepG).1
    rw [w2] at n2; cases n2
    obtain ⟨r2, l2'⟩ := r.newFz (k := false) (vs := [u1, u2]) hT (by show 2 ≤ sizeLine; decide)
    exact ⟨_, _, zipP2_get (List.getElem?_eq_getElem j1) (List.getElem?_eq_getElem j2), l2', r2, T, _, rfl, .inl putW_same, .cons (RepV.mono l2' _ _ t1) (.cons (RepV.mono l2' _ _ t2) .nil)⟩
theorem q_zip2 {X : Cx} {wx : WX} {y1 y2 : Expr} {f : EL} {p pos tpos : Pos} {elts : List Expr} {kk : Nat} (hm : X.mg "zip" = none) (ha : QAB X wx [y1, y2] f) (hg : Gl X "zip" := by rfl)
    (hs : starEach [y1, y2] X.env = (false, eval y1 X.env) :: starEach [y2] X.env := by rfl) (hpl : (backTo pos (starEach [y2] X.env)).any (·.1) = false := by rfl) :
    QI X wx (.Tuple elts kk tpos) (.Call (.Name "zip" p) [y1, y2] [] pos) (iZip2 f) := PI.weak (pi_z2 hg hm ha hs hpl) fun σ H Rr ⟨R, W0, W, g, e, rep, q⟩ => by
  refine ⟨R, W0, W, g, e, rep, q.bind.imp fun ps W1 g1 H1 l1' rep1 q1 vs rv => ?_⟩
  split at q1
  · split at q1
    · rename_i p1 p2 _ l1 l2 s1 s2
      obtain ⟨w1, ws, rfl, r1, rv⟩ := rv
      obtain ⟨w2, ws, rfl, r2, rv⟩ := rv
      obtain rfl : ws = [] := rv
      obtain ⟨a1, k1, rfl, h1⟩ := frSeq_rep s1 r1
      obtain ⟨v1, f1, d1⟩ := id h1
      obtain ⟨a2, k2, rfl, h2⟩ := frSeq_rep s2 r2
      obtain ⟨v2, f2, d2⟩ := id h2
      exact ⟨a1, a2, k1, k2, rfl, ⟨v1, (f1.sq rep1.toRepG).1⟩, ⟨v2, (f2.sq rep1.toRepG).1⟩, q1 W1 H1 (Le.refl _) rep1 _ (itOk_zip2 rep1 h1 h2)⟩
    · exact q1.elim
  · exact q1.elim
def IZ3 (K : PySem.W.Frag) (k1 k2 k3 : Bool) (a1 a2 a3 : Addr) : It :=
  ⟨fun i H => ∃ (l1 l2 l3 : List V) (x1 x2 x3 : V), SqX K H k1 a1 l1 ∧ l1[i]? = some x1 ∧ SqX K H k2 a2 l2 ∧ l2[i]? = some x2 ∧ SqX K H k3 a3 l3 ∧ l3[i]? = some x3,
    fun i H v H' => ∃ (T : Addr) (x1 x2 x3 : V), v = .ref T ∧ H T = none ∧ H' = upd H T (.tup [x1, x2, x3]) ∧ (∀ l, SqX K H k1 a1 l → l[i]? = some x1) ∧ (∀ l, SqX K H k2 a2 l → l[i]? = some x2) ∧ (∀ l, SqX K H k3 a3 l → l[i]? = some x3),
    fun i H => ∃ l1 l2 l3 : List V, SqX K H k1 a1 l1 ∧ i ≤ l1.length ∧ SqX K H k2 a2 l2 ∧ i ≤ l2.length ∧ SqX K H k3 a3 l3 ∧ i ≤ l3.length ∧ (i = l1.length ∨ i = l2.length ∨ i = l3.length)⟩
theorem turn_z3 {P : Program} {w : World} {K : PySem.W.Frag} {elts : List Expr} {kk : Nat} {tpos : Pos} {k1 k2 k3 : Bool} {a1 a2 a3 z TI TO i1 i2 i3 : Addr} (D : ZipSep3 z TI TO i1 i2 i3 [i1, a1] [i2, a2] [i3, a3]) (n1 : a1 ≠ i1) (n2 : a2 ≠ i2) (n3 : a3 ≠ i3) :
    Turn P w K (.Tuple elts kk tpos) (IZ3 K k1 k2 k3 a1 a2 a3) [z, TI, TO, i1, i2, i3] z (fun i h => IsZip h z TI TO .none ∧ IsTupOf3 h TI (.ref i1) (.ref i2) (.ref i3) ∧ (∃ b1 b2 b3, IsTupOf3 h TO b1 b2 b3) ∧ ItK k1 i1 a1 i h ∧ ItK k2 i2 a2 i h ∧ ItK k3 i3 a3 i h) where
  mem := by simp
  obj := fun i h st c hc => by
    obtain ⟨hz, hTI, ⟨b1, b2, b3, hTO⟩, h1, h2, h3⟩ := st
    have e' : c = z ∨ c = TI ∨ c = TO ∨ c = i1 ∨ c = i2 ∨ c = i3 := by simpa using hc
    rcases e' with q | q | q | q | q | q
    · rw [q]; exact ⟨_, hz, fun v q => nomatch q⟩
    · rw [q]; exact ⟨_, hTI, fun v q => nomatch q⟩
    · rw [q]; exact ⟨_, hTO, fun v q => nomatch q⟩
    · rw [q]; exact h1.obj
    · rw [q]; exact h2.obj
    · rw [q]; exact h3.obj
  keep := fun i h h' st k => by
    obtain ⟨hz, hTI, ⟨b1, b2, b3, hTO⟩, h1, h2, h3⟩ := st
    exact ⟨k z (by simp) _ hz, k TI (by simp) _ hTI, ⟨b1, b2, b3, k TO (by simp) _ hTO⟩, h1.at fun o q => k i1 (by simp) o q, h2.at fun o q => k i2 (by simp) o q, h3.at fun o q => k i3 (by simp) o q⟩
  item := by
    intro X hP hw hK hc i pins s σ H E I hf st hg
    subst hP hw hK
    obtain ⟨hz, hTI, ⟨b1, b2, b3, hTO⟩, h1, h2, h3⟩ := st
    obtain ⟨l1, l2, l3, x1, x2, x3, q1, g1, q2, g2, q3, g3⟩ := hg
    obtain ⟨v1, r1, p1⟩ := I.sqx q1
    obtain ⟨u1, w1, t1⟩ := r1.get g1
    have m1 : i < v1.toArray.size := by rw [List.size_toArray]; exact (List.getElem?_eq_some_iff.mp w1).1
    obtain ⟨v2, r2, p2⟩ := I.sqx q2
    obtain ⟨u2, w2, t2⟩ := r2.get g2
    have m2 : i < v2.toArray.size := by rw [List.size_toArray]; exact (List.getElem?_eq_some_iff.mp w2).1
    obtain ⟨v3, r3, p3⟩ := I.sqx q3
    obtain ⟨u3, w3, t3⟩ := r3.get g3
    have m3 : i < v3.toArray.size := by rw [List.size_toArray]; exact (List.getElem?_eq_some_iff.mp w3).1
    have hzl : z < s.heap.objs.size := Heap.lt_size hz
    have c1 := h1.lt
    have c2 := h2.lt
    have c3 := h3.lt
    refine wpAny_pyNext_zipD3_item D (drawK (A := X.A.in1) (I.ok.hd hc) k1 i1 a1 n1 v1.toArray) (drawK (A := X.A.in1) (I.ok.hd hc) k2 i2 a2 n2 v2.toArray) (drawK (A := X.A.in1) (I.ok.hd hc) k3 i3 a3 n3 v3.toArray) hz hTI hTO ⟨h1, p1⟩ ⟨h2, p2⟩ ⟨h3, p3⟩ m1 m2 m3 fun y1 y2 y3 h' tk d1 d2 d3 b5 b6 e1 e2 e3 b7 b8 hk => ?_
    obtain rfl : u1 = y1 := by
      have z1 : v1.toArray[i]? = some y1 := d1
      rw [List.getElem?_toArray, w1] at z1; cases z1; rfl
    obtain rfl : u2 = y2 := by
      have z1 : v2.toArray[i]? = some y2 := d2
      rw [List.getElem?_toArray, w2] at z1; cases z1; rfl
    obtain rfl : u3 = y3 := by
      have z1 : v3.toArray[i]? = some y3 := d3
      rw [List.getElem?_toArray, w3] at z1; cases z1; rfl
    refine ⟨_, rfl, wpAny_letOwnedTupleGo_zip (s := { s with heap := h', toks := tk }) b5 fun h'' z'' sb => ?_⟩
    have hT2 : h''.get? s.heap.objs.size = some { cls := .type "tuple", data := .seq #[u1, u2, u3] } := (sb.2 _ (Nat.ne_of_gt hzl)).trans b7
    have new : ObjOk X.prog X.w (upd H s.heap.objs.size (.tup [x1, x2, x3])) h'' s.heap.objs.size (.tup [x1, x2, x3]) :=
      ⟨by show 3 ≤ sizeLine; decide, [u1, u2, u3], .cons t1 (.cons t2 (.cons t3 .nil)), ⟨_, hT2, rfl, _, rfl⟩⟩
    have I1 : Inv X pins σ (upd H s.heap.objs.size (.tup [x1, x2, x3])) { s with heap := h'', toks := tk } :=
      I.turnedNew (ch := [z, TI, TO, i1, i2, i3]) (fun c o hb q => (sb.2 c (fun q' => hb (by simp [q']))).trans (hk c o (fun q' => hb (by simp [q'])) (fun q' => hb (by simp [q'])) (fun q' => hb (by simp [q'])) (fun q' => hb (by simp [q'])) (fun q' => hb (by simp [q'])) q)) hf (Nat.le_refl _) new
    refine ⟨.ref s.heap.objs.size, _, I1, rfl, ⟨_, x1, x2, x3, rfl, I.hok.fresh (Nat.le_refl _), rfl, fun l hl => by rw [I.sqx_inj hl q1]; exact g1, fun l hl => by rw [I.sqx_inj hl q2]; exact g2, fun l hl => by rw [I.sqx_inj hl q3]; exact g3⟩, ⟨z'', ?_, ⟨u1, u2, u3, ?_⟩, ?_, ?_, ?_⟩, fun c hcm => ?_⟩
    · exact (sb.2 _ D.TIz).trans (hk _ _ D.TIz D.TITO D.TIi1 D.TIi2 D.TIi3 hTI)
    · exact (sb.2 _ D.TOz).trans b6
    · exact e1.1.at fun o q => (sb.2 _ (Ne.symm D.zi1)).trans q
    · exact e2.1.at fun o q => (sb.2 _ (Ne.symm D.zi2)).trans q
    · exact e3.1.at fun o q => (sb.2 _ (Ne.symm D.zi3)).trans q
    · have hlt : c < s.heap.objs.size := by
        have e' : c = z ∨ c = TI ∨ c = TO ∨ c = i1 ∨ c = i2 ∨ c = i3 := by simpa using hcm
        rcases e' with q | q | q | q | q | q
        · rw [q]; exact hzl
        · rw [q]; exact Heap.lt_size hTI
        · rw [q]; exact Heap.lt_size hTO
        · rw [q]; exact c1
        · rw [q]; exact c2
        · rw [q]; exact c3
      rw [upd_ne (Nat.ne_of_lt hlt)]
      exact (hf c hcm).1
  done := by
    intro X hP hw hK hc i pins s σ H E I hf st hg
    subst hP hw hK
    obtain ⟨hz, hTI, ⟨b1, b2, b3, hTO⟩, h1, h2, h3⟩ := st
    obtain ⟨l1, l2, l3, q1, g1, q2, g2, q3, g3, hend⟩ := hg
    obtain ⟨v1, r1, p1⟩ := I.sqx q1
    have w1 : l1.length = v1.toArray.size := by rw [List.size_toArray]; exact r1.length
    obtain ⟨v2, r2, p2⟩ := I.sqx q2
    have w2 : l2.length = v2.toArray.size := by rw [List.size_toArray]; exact r2.length
    obtain ⟨v3, r3, p3⟩ := I.sqx q3
    have w3 : l3.length = v3.toArray.size := by rw [List.size_toArray]; exact r3.length
    exact wpAny_pyNext_zipD3_end D (drawK (A := X.A.in1) (I.ok.hd hc) k1 i1 a1 n1 v1.toArray) (drawK (A := X.A.in1) (I.ok.hd hc) k2 i2 a2 n2 v2.toArray) (drawK (A := X.A.in1) (I.ok.hd hc) k3 i3 a3 n3 v3.toArray) hz hTI hTO ⟨h1, p1⟩ ⟨h2, p2⟩ ⟨h3, p3⟩ (w1 ▸ g1) (w2 ▸ g2) (w3 ▸ g3) (by rw [← w1]; rw [← w2]; rw [← w3]; exact hend) fun h' tk hk => ⟨rfl, I.turnedL (ch := [z, TI, TO, i1, i2, i3]) (fun c o hb q =>
      hk c o (fun q' => hb (by simp [q'])) (fun q' => hb (by simp [q'])) (fun q' => hb (by simp [q'])) (fun q' => hb (by simp [q'])) (fun q' => hb (by simp [q'])) q) hf⟩
  self := fun A i s Q E st h => wpAny_pyIter_zip st.1 h
def iZ3 (K : PySem.W.Frag) (ta : TA) : TI := fun σ H R => ta σ H fun vs H1 => ∃ (a1 a2 a3 : Addr) (k1 k2 k3 : Bool), vs = [.ref a1, .ref a2, .ref a3] ∧ (∃ l, SqX K H1 k1 a1 l) ∧ (∃ l, SqX K H1 k2 a2 l) ∧ (∃ l, SqX K H1 k3 a3 l) ∧ R (IZ3 K k1 k2 k3 a1 a2 a3) H1
theorem pi_z3 {X : Cx} {y1 y2 y3 : Expr} {ta : TA} {p pos tpos : Pos} {elts : List Expr} {kk : Nat} (hg : Gl X "zip") (hm : X.mg "zip" = none) (ha : PA X [y1, y2, y3] ta)
    (hs : starEach [y1, y2, y3] X.env = (false, eval y1 X.env) :: starEach [y2, y3] X.env := by rfl) (hpl : (backTo pos (starEach [y2, y3] X.env)).any (·.1) = false := by rfl) :
    PI X (.Tuple elts kk tpos) (.Call (.Name "zip" p) [y1, y2, y3] [] pos) (iZ3 X.K ta) := by
  refine ⟨fun pins s σ H R I h => ?_⟩
  refine Call_ (ld_blt I hg hm PyProof.Rows.boot_zip (PyProof.Rows.callWith_type1 (thn (ha.run pos pins s σ H _ I h) fun us s1 ⟨vs, H1, I1, r1, q1⟩ => ?_) hs hpl))
  obtain ⟨a1, a2, a3, k1, k2, k3, ex, ⟨l1, q1⟩, ⟨l2, q2⟩, ⟨l3, q3⟩, q⟩ := q1
  subst ex
  obtain rfl : us = [.ref a1, .ref a2, .ref a3] := by
    cases r1 with
    | cons z1 r1 =>
      cases z1
      cases r1 with
      | cons z2 r1 =>
        cases z2
        cases r1 with
        | cons z3 r1 =>
          cases z3
          cases r1; rfl
  obtain ⟨v1, r1, p1⟩ := I1.sqx q1
  have n1 := p1.lt'
  obtain ⟨v2, r2, p2⟩ := I1.sqx q2
  have n2 := p2.lt'
  obtain ⟨v3, r3, p3⟩ := I1.sqx q3
  have n3 := p3.lt'
  refine zip_begins3 (begK k1 a1 v1.toArray) (begK k2 a2 v2.toArray) (begK k3 a3 v3.toArray) p1 p2 p3 fun h' hz hTI hTO j1 j2 j3 hsz hk => wpAny_pyIter_zip hz ?_
  have I2 : Inv X pins σ H1 { s1 with heap := h' } := I1.kept (t' := s1.toks) hk
  refine ⟨s1.heap.objs.size + 5, [s1.heap.objs.size + 5, s1.heap.objs.size + 3, s1.heap.objs.size + 4, s1.heap.objs.size, s1.heap.objs.size + 1, s1.heap.objs.size + 2], _, _, H1, rfl, I2, turn_z3 (zip_sep3 (N := s1.heap.objs.size) (fp1 := [a1]) (fp2 := [a2]) (fp3 := [a3]) (fun b hb => by rw [List.mem_singleton.mp hb]; exact n1) (fun b hb => by rw [List.mem_singleton.mp hb]; exact n2) (fun b hb => by rw [List.mem_singleton.mp hb]; exact n3)) (Nat.ne_of_lt (n1)) (Nat.ne_of_lt (Nat.lt_of_lt_of_le n2 (Nat.le_add_right _ _))) (Nat.ne_of_lt (Nat.lt_of_lt_of_le n3 (Nat.le_add_right _ _))), ⟨hz, hTI, ⟨_, _, _, hTO⟩, begK_at k1 j1, begK_at k2 j2, begK_at k3 j3⟩, fun c hcm => ?_, q⟩
  have hle : s1.heap.objs.size ≤ c := by
    have e' : c = s1.heap.objs.size + 5 ∨ c = s1.heap.objs.size + 3 ∨ c = s1.heap.objs.size + 4 ∨ c = s1.heap.objs.size ∨ c = s1.heap.objs.size + 1 ∨ c = s1.heap.objs.size + 2 := by simpa using hcm
    rcases e' with e | e | e | e | e | e <;> subst e <;> first | exact Nat.le_refl _ | exact Nat.le_add_right _ _
  exact I1.fpOk hle (I1.hok.fresh hle)
def zipP3 (l1 l2 l3 : List PV) : List PV := List.zipWith (fun x1 q => .tup [x1, q.1, q.2]) l1 (List.zip l2 l3)
def iZip3 (f : EL) : EL := fun e g => (f e g).bind fun ps g1 => match ps with
  | [p1, p2, p3] => (match frSeq p1, frSeq p2, frSeq p3 with
    | some l1, some l2, some l3 => .ok (zipP3 l1 l2 l3) g1
    | _, _, _ => .bad)
  | _ => .bad
theorem zipP3_get {l1 l2 l3 : List PV} {i : Nat} {x1 x2 x3 : PV} (h1 : l1[i]? = some x1) (h2 : l2[i]? = some x2) (h3 : l3[i]? = some x3) : (zipP3 l1 l2 l3)[i]? = some (.tup [x1, x2, x3]) := by
  unfold zipP3; rw [List.getElem?_zipWith, h1, List.getElem?_zip_eq_some.mpr (show l2[i]? = some (x2, x3).1 ∧ l3[i]? = some (x2, x3).2 from ⟨h2, h3⟩)]
theorem zipP3_len (l1 l2 l3 : List PV) : (zipP3 l1 l2 l3).length = min l1.length (min l2.length l3.length) := by unfold zipP3; simp
theorem itOk_zip3 {K : PySem.W.Frag} {R0 : Hp} {W00 W : Wd} {g0 : G} {e0 : Env} {σ0 : L2.St} {H0 : Hp} (rep0 : Rep K R0 W00 W g0 e0 σ0 H0) {k1 k2 k3 : Bool} {a1 a2 a3 : Addr} {l1 l2 l3 : List PV} (h1 : SqW K W k1 a1 l1) (h2 : SqW K W k2 a2 l2) (h3 : SqW K W k3 a3 l3) : ItOk K W (zipP3 l1 l2 l3) (IZ3 K k1 k2 k3 a1 a2 a3) := by
  have hl := zipP3_len l1 l2 l3
  refine ⟨?_, fun R W0 W1 g e σ H i l r hi => ?_, fun R W0 W1 g e σ H l r => ?_, fun R W0 W1 g e σ H i x H' l r hi y => ?_⟩
  · obtain ⟨vs, g1, g2⟩ := h1
    have z1 := (g1.sq rep0.toRepG).2
    have z2 := g2.length
    omega
  · obtain ⟨v1, f1, d1⟩ := h1.mono l
    obtain ⟨v2, f2, d2⟩ := h2.mono l
    obtain ⟨v3, f3, d3⟩ := h3.mono l
    have z1 := d1.length
    have z2 := d2.length
    have z3 := d3.length
    obtain ⟨u1, w1, t1⟩ := d1.get (List.getElem?_eq_getElem (show i < l1.length by omega))
    obtain ⟨u2, w2, t2⟩ := d2.get (List.getElem?_eq_getElem (show i < l2.length by omega))
    obtain ⟨u3, w3, t3⟩ := d3.get (List.getElem?_eq_getElem (show i < l3.length by omega))
    exact ⟨v1, v2, v3, u1, u2, u3, (f1.sq r.toRepG).1, w1, (f2.sq r.toRepG).1, w2, (f3.sq r.toRepG).1, w3⟩
  · obtain ⟨v1, f1, d1⟩ := h1.mono l
    obtain ⟨v2, f2, d2⟩ := h2.mono l
    obtain ⟨v3, f3, d3⟩ := h3.mono l
    have z1 := d1.length
    have z2 := d2.length
    have z3 := d3.length
    exact ⟨v1, v2, v3, (f1.sq r.toRepG).1, by omega, (f2.sq r.toRepG).1, by omega, (f3.sq r.toRepG).1, by omega, by omega⟩
  · obtain ⟨v1, f1, d1⟩ := h1.mono l
    obtain ⟨v2, f2, d2⟩ := h2.mono l
    obtain ⟨v3, f3, d3⟩ := h3.mono l
    have j1 : i < l1.length := by omega
    obtain ⟨u1, w1, t1⟩ := d1.get (List.getElem?_eq_getElem j1)
    have j2 : i < l2.length := by omega
    obtain ⟨u2, w2, t2⟩ := d2.get (List.getElem?_eq_getElem j2)
    have j3 : i < l3.length := by omega
    obtain ⟨u3, w3, t3⟩ := d3.get (List.getElem?_eq_getElem j3)
    obtain ⟨T, x1, x2, x3, rfl, hT, rfl, m1, m2, m3⟩ := y
    have n1 := m1 v1 (f1.sq r.toRepG).1
    rw [w1] at n1; cases n1
    have n2 := m2 v2 (f2.sq r.toRepG).1
    rw [w2] at n2; cases n2
    have n3 := m3 v3 (f3.sq r.toRepG).1
    rw [w3] at n3; cases n3
    obtain ⟨r2, l2'⟩ := r.newFz (k := false) (vs := [u1, u2, u3]) hT (by show 3 ≤ sizeLine; decide)
    exact ⟨_, _, zipP3_get (List.getElem?_eq_getElem j1) (List.getElem?_eq_getElem j2) (List.getElem?_eq_getElem j3), l2', r2, T, _, rfl, .inl putW_same, .cons (RepV.mono l2' _ _ t1) (.cons (RepV.mono l2' _ _ t2) (.cons (RepV.mono l2' _ _ t3) .nil))⟩
theorem q_zip3 {X : Cx} {wx : WX} {y1 y2 y3 : Expr} {f : EL} {p pos tpos : Pos} {elts : List Expr} {kk : Nat} (hm : X.mg "zip" = none) (ha : QAB X wx [y1, y2, y3] f) (hg : Gl X "zip" := by rfl)
    (hs : starEach [y1, y2, y3] X.env = (false, eval y1 X.env) :: starEach [y2, y3] X.env := by rfl) (hpl : (backTo pos (starEach [y2, y3] X.env)).any (·.1) = false := by rfl) :
    QI X wx (.Tuple elts kk tpos) (.Call (.Name "zip" p) [y1, y2, y3] [] pos) (iZip3 f) := PI.weak (pi_z3 hg hm ha hs hpl) fun σ H Rr ⟨R, W0, W, g, e, rep, q⟩ => by
  refine ⟨R, W0, W, g, e, rep, q.bind.imp fun ps W1 g1 H1 l1' rep1 q1 vs rv => ?_⟩
  split at q1
  · split at q1
    · rename_i p1 p2 p3 _ l1 l2 l3 s1 s2 s3
      obtain ⟨w1, ws, rfl, r1, rv⟩ := rv
      obtain ⟨w2, ws, rfl, r2, rv⟩ := rv
      obtain ⟨w3, ws, rfl, r3, rv⟩ := rv
      obtain rfl : ws = [] := rv
      obtain ⟨a1, k1, rfl, h1⟩ := frSeq_rep s1 r1
      obtain ⟨v1, f1, d1⟩ := id h1
      obtain ⟨a2, k2, rfl, h2⟩ := frSeq_rep s2 r2
      obtain ⟨v2, f2, d2⟩ := id h2
      obtain ⟨a3, k3, rfl, h3⟩ := frSeq_rep s3 r3
      obtain ⟨v3, f3, d3⟩ := id h3
      exact ⟨a1, a2, a3, k1, k2, k3, rfl, ⟨v1, (f1.sq rep1.toRepG).1⟩, ⟨v2, (f2.sq rep1.toRepG).1⟩, ⟨v3, (f3.sq rep1.toRepG).1⟩, q1 W1 H1 (Le.refl _) rep1 _ (itOk_zip3 rep1 h1 h2 h3)⟩
    · exact q1.elim
  · exact q1.elim

/-! ## enumerate -/
def IEn (K : PySem.W.Frag) (k : Bool) (a : Addr) : It :=
  ⟨fun i H => ∃ (l : List V) (x : V), SqX K H k a l ∧ l[i]? = some x,
    fun i H v H' => ∃ (T : Addr) (x : V), v = .ref T ∧ H T = none ∧ H' = upd H T (.tup [.int (i : Nat), x]) ∧ ∀ l, SqX K H k a l → l[i]? = some x,
    fun i H => ∃ l : List V, SqX K H k a l ∧ i = l.length⟩
theorem turn_en {P : Program} {w : World} {K : PySem.W.Frag} {elts : List Expr} {kk : Nat} {tpos : Pos} {k : Bool} {a c it : Addr} (nc : c ≠ it) (nf : c ∉ [it, a]) (na : a ≠ it) :
    Turn P w K (.Tuple elts kk tpos) (IEn K k a) [c, it] c (fun i h => (∃ old, IsEnum h c it ((i : Nat) : Int) old) ∧ ItK k it a i h) where
  mem := by simp
  obj := fun i h st b hb => by
    obtain ⟨⟨old, he⟩, hi⟩ := st
    have e' : b = c ∨ b = it := by simpa using hb
    rcases e' with z | z
    · rw [z]; exact ⟨_, he, fun v q => nomatch q⟩
    · rw [z]; exact hi.obj
  keep := fun i h h' st f => ⟨(let ⟨old, he⟩ := st.1; ⟨old, f c (by simp) _ he⟩), st.2.at fun o q => f it (by simp) o q⟩
  item := by
    intro X hP hw hK hc i pins s σ H E I hf st hg
    subst hP hw hK
    obtain ⟨⟨old, he⟩, hit⟩ := st
    obtain ⟨l, x, q1, g1⟩ := hg
    obtain ⟨vs, r1, p1⟩ := I.sqx q1
    obtain ⟨u, w1, t1⟩ := r1.get g1
    have m1 : i < vs.toArray.size := by rw [List.size_toArray]; exact (List.getElem?_eq_some_iff.mp w1).1
    have hel : c < s.heap.objs.size := Heap.lt_size he
    have hil := hit.lt
    refine wpAny_pyNext_enum_itemD (drawK (A := X.A.in1) (I.ok.hd hc) k it a na vs.toArray) he ⟨hit, p1⟩ m1 nc nf fun y h' tk d1 ho st' hT hsz hk => ?_
    obtain rfl : u = y := by
      have z1 : vs.toArray[i]? = some y := d1
      rw [List.getElem?_toArray, w1] at z1; cases z1; rfl
    refine ⟨_, rfl, wpAny_letOwnedTupleGo_enum (s := { s with heap := h', toks := tk + 1 }) ho fun h'' he' sb => ?_⟩
    have hT2 : h''.get? s.heap.objs.size = some { cls := .type "tuple", data := .seq #[.int i tk, u] } := (sb.2 _ (Nat.ne_of_gt hel)).trans hT
    have new : ObjOk X.prog X.w (upd H s.heap.objs.size (.tup [.int (i : Nat), x])) h'' s.heap.objs.size (.tup [.int (i : Nat), x]) :=
      ⟨by show 2 ≤ sizeLine; decide, [.int i tk, u], .cons ⟨_, rfl⟩ (.cons t1 .nil), ⟨_, hT2, rfl, _, rfl⟩⟩
    have I1 : Inv X pins σ (upd H s.heap.objs.size (.tup [.int (i : Nat), x])) { s with heap := h'', toks := tk + 1 } :=
      I.turnedNew (ch := [c, it]) (fun b ob hb q => (sb.2 b (fun z => hb (by simp [z]))).trans (hk b ob (fun z => hb (by simp [z])) (fun z => hb (by simp [z])) q)) hf (Nat.le_refl _) new
    refine ⟨.ref s.heap.objs.size, _, I1, rfl, ⟨_, x, rfl, I.hok.fresh (Nat.le_refl _), rfl, fun ys hy => by rw [I.sqx_inj hy q1]; exact g1⟩, ⟨⟨u, ?_⟩, st'.1.at fun o q => (sb.2 it (Ne.symm nc)).trans q⟩, fun b hb => ?_⟩
    · have e1 : ((i + 1 : Nat) : Int) = (i : Int) + 1 := by omega
      rw [e1]; exact he'
    · have hb' : b < s.heap.objs.size := by
        have e' : b = c ∨ b = it := by simpa using hb
        rcases e' with z | z
        · rw [z]; exact hel
        · rw [z]; exact hil
      rw [upd_ne (Nat.ne_of_lt hb')]
      exact (hf b hb).1
  done := by
    intro X hP hw hK hc i pins s σ H E I hf st hg
    subst hP hw hK
    obtain ⟨⟨old, he⟩, hit⟩ := st
    obtain ⟨l, q1, g1⟩ := hg
    obtain ⟨vs, r1, p1⟩ := I.sqx q1
    have w1 : i = vs.toArray.size := by rw [List.size_toArray, ← r1.length]; exact g1
    subst w1
    refine wpAny_pyNext_enum_endD (drawK (A := X.A.in1) (I.ok.hd hc) k it a na vs.toArray) he ⟨hit, p1⟩ fun h' eb => ⟨rfl, ?_⟩
    obtain ⟨f0, f1, f2, f3, f4, f5⟩ := hf it (by simp)
    exact I.turned (t' := s.toks) (fun b o hb q => eb b o hb q) f0 f1 f3 f4 f5
  self := fun A i s Q E st h => let ⟨⟨_, he⟩, _⟩ := st; wpAny_pyIter_enum he h
set_option maxHeartbeats 1000000 in
theorem enNew {v : Value} {o : Obj} {H : Heap → Prop} (B : Begins v o H) :
    Meets (Builtin.«enumerate.__new__» ⟨[.type "enumerate", v], []⟩) (fun _ R s => H s.heap ∧
      R (.ok (.ret (.ref (s.heap.push o).objs.size))) { s with heap := (s.heap.push o).push { cls := .type "enumerate", data := .fields #[.none, .bool false, .ref s.heap.objs.size, rawInt 0, .none, .none] } }) := Meets.of_wp fun prog w A R s h => by
  obtain ⟨hp, g, d, tk, os⟩ := s
  obtain ⟨hb, h⟩ := h
  have go : ∀ {A' : Around} {E : Value → Shared → Prop} {Q : Value → Shared → Prop}, Q (.ref hp.objs.size) ⟨hp.push o, g, d, tk, os⟩ → wpAny (model prog w) A' (pyIter v) Q E ⟨hp, g, d, tk, os⟩ := fun q => B.iter _ _ _ _ ⟨hp, g, d, tk, os⟩ _ hb q
  have sub := sub_enumerate
  wp_walk using go
  refine wpAny_stack_any fun st => wpAny_pure ?_
  split
  · rename_i c _ _ _ _ _
    cases (c == Value.type "enumerate") <;> (wp_walk using go; exact ⟨_, rfl, h⟩)
  · wp_walk using go
    exact ⟨_, rfl, h⟩
theorem call_en {prog : Program} {w : World} {A : Around} {E : Value → Shared → Prop} {s : Shared} {v : Value} {o : Obj} {H : Heap → Prop} {Q : Value → Shared → Prop} (B : Begins v o H) (h1 : H s.heap)
    (h : ∀ h', IsEnum h' (s.heap.objs.size + 1) s.heap.objs.size 0 .none → h'.get? s.heap.objs.size = some o → (∀ b o, s.heap.get? b = some o → h'.get? b = some o) → Q (.ref (s.heap.objs.size + 1)) { s with heap := h' }) :
    wpAny (model prog w) A (call (.type "enumerate") [v]) Q E s := by
  refine callType_new F.called_enumerate (by decide) (F.typeCall_enumerate_1 _) (F.newCall_enumerate_1 _) (fun obj => F.args_object_init_2 obj _) F.entry_enumerate_new (enNew B) ⟨h1, ?_⟩
  show _ ∧ _
  rw [show (s.heap.push o).objs.size = s.heap.objs.size + 1 from Heap.size_push ..]
  have he := Heap.get?_push_size (s.heap.push o) (o := { cls := .type "enumerate", data := .fields #[.none, .bool false, .ref s.heap.objs.size, rawInt 0, .none, .none] }) rfl
  rw [show (s.heap.push o).objs.size = s.heap.objs.size + 1 from Heap.size_push ..] at he
  exact ⟨⟨_, he, rfl⟩, h _ he (Heap.get?_push_of_some _ (Heap.get?_push_size _ B.free)) fun b u x => Heap.get?_push_of_some _ (Heap.get?_push_of_some _ x)⟩
def iEn (K : PySem.W.Frag) (ta : TA) : TI := fun σ H R => ta σ H fun vs H1 => ∃ (a : Addr) (k : Bool), vs = [.ref a] ∧ (∃ l, SqX K H1 k a l) ∧ R (IEn K k a) H1
theorem pi_en {X : Cx} {y : Expr} {ta : TA} {p pos tpos : Pos} {elts : List Expr} {kk : Nat} (hg : Gl X "enumerate") (hm : X.mg "enumerate" = none) (ha : PA X [y] ta) (hs : starEach [y] X.env = [(false, eval y X.env)] := by rfl) :
    PI X (.Tuple elts kk tpos) (.Call (.Name "enumerate" p) [y] [] pos) (iEn X.K ta) := by
  refine ⟨fun pins s σ H R I h => ?_⟩
  refine Call_ (ld_blt I hg hm boot_enumerate (PyProof.Rows.callWith_type1 (thn (ha.run pos pins s σ H _ I h) fun us s1 ⟨vs, H1, I1, r1, q1⟩ => ?_) hs rfl))
  obtain ⟨a, k, ex, ⟨l, q1⟩, q⟩ := q1
  subst ex
  obtain rfl : us = [.ref a] := by
    cases r1 with
    | cons z r1 => cases z; cases r1; rfl
  obtain ⟨v1, r1, p1⟩ := I1.sqx q1
  have n1 := p1.lt'
  refine call_en (begK k a v1.toArray) p1 fun h' he j1 hk => wpAny_pyIter_enum he ?_
  have I2 : Inv X pins σ H1 { s1 with heap := h' } := I1.kept (t' := s1.toks) hk
  have nc : s1.heap.objs.size + 1 ≠ s1.heap.objs.size := Nat.succ_ne_self _
  refine ⟨s1.heap.objs.size + 1, [s1.heap.objs.size + 1, s1.heap.objs.size], _, _, H1, rfl, I2, turn_en nc (fun m => ?_) (Nat.ne_of_lt n1), ⟨⟨.none, he⟩, begK_at k j1⟩, fun b hb => ?_, q⟩
  · have e' : s1.heap.objs.size + 1 = s1.heap.objs.size ∨ s1.heap.objs.size + 1 = a := by simpa using m
    rcases e' with z | z
    · exact nc z
    · rw [← z] at n1; exact absurd n1 (Nat.not_lt.mpr (Nat.le_succ _))
  · have e' : b = s1.heap.objs.size + 1 ∨ b = s1.heap.objs.size := by simpa using hb
    have hle : s1.heap.objs.size ≤ b := by
      rcases e' with z | z
      · rw [z]; exact Nat.le_add_right _ _
      · rw [z]; exact Nat.le_refl _
    exact I1.fpOk hle (I1.hok.fresh hle)
def enumP (l : List PV) : List PV := (List.range l.length).zipWith (fun i x => .tup [.int (i : Nat), x]) l
def iEnum (f : EE) : EL := fun e g => (f e g).bind fun p g1 => match frSeq p with
  | some l => .ok (enumP l) g1
  | none => .bad
theorem enumP_len (l : List PV) : (enumP l).length = l.length := by unfold enumP; simp
theorem enumP_get {l : List PV} {i : Nat} {x : PV} (h : l[i]? = some x) : (enumP l)[i]? = some (.tup [.int (i : Nat), x]) := by
  unfold enumP
  rw [List.getElem?_zipWith, h, List.getElem?_range (List.getElem?_eq_some_iff.mp h).1]
theorem itOk_enum {K : PySem.W.Frag} {R0 : Hp} {W00 W : Wd} {g0 : G} {e0 : Env} {σ0 : L2.St} {H0 : Hp} (rep0 : Rep K R0 W00 W g0 e0 σ0 H0) {k : Bool} {a : Addr} {l : List PV} (h : SqW K W k a l) : ItOk K W (enumP l) (IEn K k a) := by
  refine ⟨?_, fun R W0 W1 g e σ H i l' r hi => ?_, fun R W0 W1 g e σ H l' r => ?_, fun R W0 W1 g e σ H i x H' l' r hi y => ?_⟩
  · obtain ⟨vs, g1, g2⟩ := h
    have z1 := (g1.sq rep0.toRepG).2
    have z2 := g2.length
    rw [enumP_len]; omega
  · rw [enumP_len] at hi
    obtain ⟨v, f, d⟩ := h.mono l'
    obtain ⟨u, w, t⟩ := d.get (List.getElem?_eq_getElem hi)
    exact ⟨v, u, (f.sq r.toRepG).1, w⟩
  · rw [enumP_len]
    obtain ⟨v, f, d⟩ := h.mono l'
    exact ⟨v, (f.sq r.toRepG).1, d.length.symm⟩
  · rw [enumP_len] at hi
    obtain ⟨v, f, d⟩ := h.mono l'
    obtain ⟨u, w, t⟩ := d.get (List.getElem?_eq_getElem hi)
    obtain ⟨T, x1, rfl, hT, rfl, m1⟩ := y
    have n1 := m1 v (f.sq r.toRepG).1
    rw [w] at n1; cases n1
    obtain ⟨r2, l2⟩ := r.newFz (k := false) (vs := [.int (i : Nat), u]) hT (by show 2 ≤ sizeLine; decide)
    exact ⟨_, _, enumP_get (List.getElem?_eq_getElem hi), l2, r2, T, _, rfl, .inl putW_same, .cons rfl (.cons (RepV.mono l2 _ _ t) .nil)⟩
theorem q_enum {X : Cx} {wx : WX} {y : Expr} {f : EE} {p pos tpos : Pos} {elts : List Expr} {kk : Nat} (hm : X.mg "enumerate" = none) (ha : QB X wx y f) (hg : Gl X "enumerate" := by rfl) (hs : starEach [y] X.env = [(false, eval y X.env)] := by rfl) :
    QI X wx (.Tuple elts kk tpos) (.Call (.Name "enumerate" p) [y] [] pos) (iEnum f) := PI.weak (pi_en hg hm (qb_cons ha qb_nil hs) hs) fun σ H Rr ⟨R, W0, W, g, e, rep, q⟩ => by
  refine ⟨R, W0, W, g, e, rep, ?_⟩
  have z : Oc X.mg X.K R W0 e σ wx W (f e g) _ := q.bind
  unfold aCons aNil
  cases hf : f e g with
  | bad => rw [hf] at z; exact z.elim
  | exc x g1 => rw [hf] at z; exact z
  | ok v g1 =>
    rw [hf] at z
    intro W1 H1 l1 rep1 vs rvs
    have q1 := z W1 H1 l1 rep1
    dsimp only at q1
    obtain ⟨w, rfl, rw'⟩ := rvs.one
    cases hs : frSeq v with
    | none => rw [hs] at q1; exact q1.elim
    | some l =>
      rw [hs] at q1
      obtain ⟨a, k, rfl, h⟩ := frSeq_rep hs rw'
      obtain ⟨us, h1, h2⟩ := id h
      exact ⟨a, k, rfl, ⟨us, (h1.sq rep1.toRepG).1⟩, q1 W1 H1 (Le.refl _) rep1 _ (itOk_enum rep1 h)⟩

end Q

namespace Q
open PySem L2
section
variable {X : Cx} {wx : WX} {x y : Expr} {f : EE} {pos : Pos}
/-- a slot as it stands: its value, or its own object borrowed -/
def eAny (i : Nat) : EE := fun e g => match e[i]? with
  | some (.val p) => .ok p g
  | some (.own _) => .ok (.bor i) g
  | _ => .bad
theorem q_any (i : Nat) {n : Str} (hN : X.N[i]? = some n := by rfl) (hv : Vis X.env.scope n := by first | exact Or.inl rfl | exact Or.inr (Or.inl rfl) | exact Or.inr (Or.inr rfl)) (hd : (n == ("__debug__" : Str)) = false := by decide)
    (hcd : (n == ("__classdict__" : Str)) = false := by decide) : QB X wx (.Name n pos) (eAny i) := PE.weak (pe_var hN hv hd hcd) fun σ H Q ⟨R, W0, W, g, e, rep, q⟩ => by
  unfold eAny at q
  cases he : e[i]? with
  | none => rw [he] at q; exact q.elim
  | some s =>
    rw [he] at q
    cases s with
    | val p =>
      obtain ⟨v, h1, h2⟩ := rep.slot i _ he
      exact ⟨v, h1, q W H (Le.refl _) rep v h2.t⟩
    | own o =>
      obtain ⟨a, h1, h2⟩ := rep.slot i _ he
      exact ⟨.ref a, h1, q W H (Le.refl _) rep _ ⟨⟨o, he⟩, h1⟩⟩
    | un => exact q.elim
/-- a slot's own list frozen ahead of a statement, if it is one -/
def sFzM (i : Nat) (f : SS) : SS := fun e g => match e[i]? with
  | some (.own (.lst xs)) => f (e.set i (.val (.lst xs))) g
  | _ => f e g
theorem q_fzm (i : Nat) {st : Stmt} {f : SS} (h : QS X wx st f) : QS X wx st (sFzM i f) := PS.weak h fun D σ H ⟨R, W0, W, g, e, rep, q⟩ => by
  unfold sFzM at q
  split at q
  · rename_i xs he
    obtain ⟨W', l, rep'⟩ := rep.freeze he
    exact ⟨R, W0, W', g, _, rep', OcS.mono l q⟩
  · exact ⟨R, W0, W, g, e, rep, q⟩
/-- constants of the module -/
theorem q_globI {n : Str} {i : Int} (hm : ∃ t, X.mg n = some (.int i t)) (hg : Gl X n := by rfl) (hd : (n == ("__debug__" : Str)) = false := by decide) : QE X wx (.Name n pos) (eC (.int i)) := by
  obtain ⟨t, ht⟩ := hm
  exact q_glob (v := .int i) hg ht ⟨t, rfl⟩ (fun _ => rfl) hd
theorem q_globS {n : Str} {z : Str} (hm : ∃ t, X.mg n = some (.str z t)) (hg : Gl X n := by rfl) (hd : (n == ("__debug__" : Str)) = false := by decide) : QE X wx (.Name n pos) (eC (.str z)) := by
  obtain ⟨t, ht⟩ := hm
  exact q_glob (v := .str z) hg ht ⟨t, rfl⟩ (fun _ => rfl) hd
end
theorem ru {k : Nat} {A : Around} (r : Room k A) : A.units + 64 < cLine := r.units
theorem ru2 {k : Nat} {A : Around} (r : Room k A) : A.units + 128 < cLine := by have := r.un; omega

/-! ## the law's end -/
def spL (K : PySem.W.Frag) : Sp := fun vs H Q _ => ∃ (a : Addr) (ns : List Int), vs = [.ref a] ∧ SqL K H a (ns.map V.int) ∧ ns.length ≤ 63 ∧ ∀ H', Q (.bl true) H'
theorem ints_rep {K : PySem.W.Frag} {W : Wd} : ∀ ns : List Int, RepVs K W (ns.map PV.int) (ns.map V.int)
  | [] => rfl
  | n :: ns => .cons rfl (ints_rep ns)
section
variable {P : Program} {w : World} {K : PySem.W.Frag} {mg : Str → Option Value} {base : Heap}
theorem spL_of {F : Fn} (h : ∀ ns : List Int, ns.length ≤ 63 → ∃ g, F [.scr (ns.map .int)] [] = .ok (.bl true) g) (vs : List V) (H : Hp) (Q : VK) (E : XK) (q : spL K vs H Q E) : spQ mg K 1 F vs H Q E := by
  obtain ⟨a, ns, rfl, hS, hl, k⟩ := q
  have hz : (ns.map V.int).length ≤ sizeLine := by rw [List.length_map]; exact Nat.le_trans hl (by decide)
  obtain ⟨g, hF⟩ := h ns hl
  have key : ∀ W : Wd, NoOw W → RepG K (protW W H) W W [] H → InW K W true a (ns.map V.int) → spQ mg K 1 F [.ref a] H Q E := fun W n r i => by
    refine ⟨rfl, W, [], _, n, r, .one (x := .scr (ns.map .int)) ⟨a, _, rfl, i, ints_rep ns⟩, ?_⟩
    rw [hF]
    rintro W' H' v _ _ _ rfl
    exact k H'
  rcases hS with hS | hS
  · refine key (fun b => if b = a then some (.rd (ns.map V.int)) else none) (fun b i z => by simp only at z; split at z <;> cases z) ⟨fun b o z => (protW_some z).1, fun _ _ _ => rfl, fun b k z => ?_, fun b k us z => ?_, fun b us z => ?_, fun b n z => ?_, fun b c n z _ => ?_, fun b i z => ?_⟩ (.inr (.inr ⟨rfl, if_pos rfl⟩))
    · split at z
      · rename_i e; subst e
        rcases hS with hS | ⟨o, hS⟩
        · exact ⟨_, hS⟩
        · exact ⟨_, hS⟩
      · cases z
    · split at z <;> cases z
    · split at z
      · rename_i e; cases z; subst e; exact ⟨hS, hz⟩
      · cases z
    · split at z <;> cases z
    · split at z <;> cases z
    · split at z <;> cases z
  · refine key (fun _ => none) (fun _ _ z => by cases z) ⟨fun b o z => (protW_some z).1, fun _ _ _ => rfl, fun _ _ z => (by cases z), fun _ _ _ z => (by cases z), fun _ _ z => (by cases z), fun _ _ z => (by cases z), fun _ _ _ z _ => (by cases z), fun _ _ z => (by cases z)⟩ (.inr (.inl ⟨fun H' => .inr hS, hz⟩))
theorem cx0 {P : Program} {w : World} (H : Hp) (s : Shared) (e : Value) (s' : Shared) : L2.CX P w [] H s (fun _ _ _ => False) e s' → False := fun ⟨_, _, _, _, _, _, _, _, _, _, _, _, z⟩ => z
end
end Q

namespace Q
open PySem L2
section
variable {X : Cx} {wx : WX} {x y : Expr} {f k : EE} {apos cpos : Pos}
/-- x.upper() -/
def tUp (to : TE) : TE := fun σ H Q => to σ H fun x H1 => ∃ z, x = .str z ∧ z.length ≤ 5592405 ∧ Q (.str (Txt.upper z)) H1
theorem pe_upper {to : TE} (h : PE X x to) (hbase : attributeBase x "upper" X.env (eval x X.env) = eval x X.env := by rfl) (hline : (apos.endLine == cpos.line) = true := by rfl) : PE X (.Call (.Attribute x "upper" apos) [] [] cpos) (tUp to) := by
  refine ⟨fun pins s σ H Q I hq => ?_⟩
  refine J1.ev_upper hbase hline (thn (h.run pins s σ H _ I hq) fun v s1 ⟨x, H1, I1, r1, z, ex, hz, q⟩ => ?_)
  subst ex
  obtain ⟨t, rfl⟩ := r1
  exact ⟨z, t, rfl, hz, fun t' k' => ⟨.str _, H1, I1.tok _, ⟨_, rfl⟩, q⟩⟩
def opUpper (p : PV) : Option PV := match p with
  | .str z => if Nat.ble z.length 5592405 then some (.str (Txt.upper z)) else none
  | _ => none
def eUpper (f : EE) : EE := fun e g => (f e g).bind fun p g1 => optR (opUpper p) g1
theorem q_upper (h : QE X wx x f) (hbase : attributeBase x "upper" X.env (eval x X.env) = eval x X.env := by rfl) (hline : (apos.endLine == cpos.line) = true := by rfl) : QE X wx (.Call (.Attribute x "upper" apos) [] [] cpos) (eUpper f) :=
  PE.weak (pe_upper h hbase hline) fun σ H Q ⟨R, W0, W, g, e, rep, q⟩ => by
    refine ⟨R, W0, W, g, e, rep, q.bind.imp fun p W1 g1 H1 l1 rep1 q1 v rv => ?_⟩
    unfold opUpper at q1
    split at q1
    · split at q1
      · rename_i hb
        obtain rfl := rv
        exact ⟨_, rfl, Nat.le_of_ble_eq_true hb, q1 W1 H1 (Le.refl _) rep1 _ rfl⟩
      · exact q1.elim
    · exact q1.elim
/-- o.pop(i), o a list of the store -/
def ePopG (f k : EE) : EE := fun e g => (f e g).bind fun o g1 => match o with
  | .ref n => (match g1[n]? with
    | some (.lst _) => (k e g1).bind fun ix g2 => (match ix with
      | .int z => (match g2[n]? with
        | some (.lst xs) => (match ixN xs.length z with
          | some j => (match xs[j]? with
            | some v => .ok v (g2.set n (.lst (xs.eraseIdx j)))
            | none => .bad)
          | none => .bad)
        | _ => .bad)
      | _ => .bad)
    | _ => .bad)
  | _ => .bad
theorem RepVs.erase {K : PySem.W.Frag} {W : Wd} : ∀ {xs : List PV} {vs : List V} (i : Nat), RepVs K W xs vs → RepVs K W (xs.eraseIdx i) (vs.eraseIdx i)
  | [], vs, i, q => by have q : vs = [] := q; subst q; rfl
  | _ :: xs, vs, 0, ⟨w, us, e, _, rs⟩ => by subst e; exact rs
  | y :: xs, vs, i + 1, ⟨w, us, e, r, rs⟩ => by subst e; exact ⟨w, us.eraseIdx i, rfl, r, RepVs.erase i rs⟩
/-- behind o the store has it still: o's own evaluation may not lose it -/
theorem q_popG (ho : QE X wx x f) (h : QE X wx y k) (hbase : attributeBase x ("pop" : Str) X.env (eval x X.env) = eval x X.env := by rfl)
    (hfew : ((backTo cpos (starEach [y] X.env)).all (fun x => !x.1) && (backToKw cpos (keywordEach [] X.env)).all (fun x => x.1.isSome) && decide ([y].length + ([] : List Keyword).length + (if ([] : List Keyword).isEmpty then 0 else 1) < 30)) = true := by rfl)
    (hline : (apos.endLine == cpos.line) = true := by rfl) (hst : starEach [y] X.env = (false, eval y X.env) :: starEach [] X.env := by rfl) (hpl : (backTo cpos (starEach [] X.env)).any (·.1) = false := by rfl) :
    QE X wx (.Call (.Attribute x "pop" apos) [y] [] cpos) (ePopG f k) :=
  PE.weak (pe_bm PySem.F.plainAttrs_list PySem.F.slot_list_pop PySem.F.type_list_pop mt_popAt ho (pa_cons h pa_nil hst) hbase hfew hline hst hpl) fun σ H Q ⟨R, W0, W, g, e, rep, q⟩ => by
    refine ⟨R, W0, W, g, e, rep, q.bind.imp fun o W1 g1 H1 l1 rep1 q1 v rv => ?_⟩
    cases o with
    | ref n =>
      obtain ⟨a, rfl, hW⟩ := rv
      obtain ⟨_, ob, hg, hob⟩ := rep1.gl a n hW
      simp only [hg] at q1
      cases ob with
      | lst xs =>
        obtain ⟨vs, hH, hr, hl⟩ := hob
        refine ⟨.inl ⟨rfl, vs, SqL.of hH⟩, R, W0, W1, g1, e, rep1, q1.bind.imp fun ix W2 g2 H2 l2 rep2 q2 w rw' => ?_⟩
        have hW2 := l2 _ _ hW (fun _ z => by cases z)
        obtain ⟨_, ob2, hg2, hob2⟩ := rep2.gl a n hW2
        cases ix with
        | int z =>
          simp only [hg2] at q2
          cases ob2 with
          | lst ys =>
            obtain ⟨us, hH2, hr2, hl2⟩ := hob2
            simp only at q2
            cases hj : ixN ys.length z with
            | none => rw [hj] at q2; exact q2.elim
            | some j =>
              rw [hj] at q2
              simp only at q2
              cases hy : ys[j]? with
              | none => rw [hy] at q2; exact q2.elim
              | some v =>
                rw [hy] at q2
                obtain rfl := rw'
                obtain ⟨u, hu, ru⟩ := hr2.get hy
                obtain ⟨s1, s2, s3, s4⟩ := ixN_seq hj
                have b := hr2.length
                have hz : us.length ≤ 16777216 := by rw [← sizeLine_eq]; exact hl2
                refine ⟨a, us, z, j, u, rfl, rfl, hH2, by omega, by omega, by rw [b]; exact s1, hu, ?_⟩
                refine q2 W2 _ (Le.refl _) (rep2.setGl hW2 ⟨us.eraseIdx j, upd_same, RepVs.erase j hr2, ?_⟩) _ ru
                have := List.length_eraseIdx_le us j
                omega
          | _ => exact q2.elim
        | _ => exact q2.elim
      | _ => exact q1.elim
    | _ => exact q1.elim
end
end Q

namespace Q
open PySem L2

/-! # reasoning on the functions -/
def Sat {α : Type} (r : Res α) (P : α → G → Prop) : Prop := match r with
  | .ok v g => P v g
  | _ => False
theorem Sat.ok {α : Type} {v : α} {g : G} {P : α → G → Prop} (h : P v g) : Sat (.ok v g) P := h
theorem Sat.bind {α β : Type} {r : Res α} {k : α → G → Res β} {P : β → G → Prop} (h : Sat r fun v g => Sat (k v g) P) : Sat (r.bind k) P := by
  cases r with
  | ok v g => exact h
  | _ => exact h.elim
theorem Sat.imp {α : Type} {r : Res α} {P P' : α → G → Prop} (h : Sat r P) (k : ∀ v g, P v g → P' v g) : Sat r P' := by
  cases r with
  | ok v g => exact k _ _ h
  | _ => exact h.elim
theorem Sat.eq {α : Type} {r : Res α} {P : α → G → Prop} (h : Sat r P) : ∃ v g, r = .ok v g ∧ P v g := by
  cases r with
  | ok v g => exact ⟨v, g, rfl, h⟩
  | _ => exact h.elim
def S0 (r : RS) (N : Env → G → Prop) (T : PV → G → Prop) : Prop := match r with
  | .nx e g => N e g
  | .rt v g => T v g
  | _ => False
theorem S0.imp {r : RS} {N N' : Env → G → Prop} {T T' : PV → G → Prop} (h : S0 r N T) (k : ∀ e g, N e g → N' e g) (k' : ∀ v g, T v g → T' v g) : S0 r N' T' := by
  cases r with
  | nx e g => exact k _ _ h
  | rt v g => exact k' _ _ h
  | _ => exact h.elim
theorem S0.toS {α : Type} {r : Res α} {e : Env} {k : α → G → RS} {N : Env → G → Prop} {T : PV → G → Prop} (h : Sat r fun v g => S0 (k v g) N T) : S0 (r.toS e k) N T := by
  cases r with
  | ok v g => exact h
  | _ => exact h.elim
theorem S0.seq {f k : SS} {e : Env} {g : G} {N : Env → G → Prop} {T : PV → G → Prop} (h : S0 (f e g) (fun e1 g1 => S0 (k e1 g1) N T) T) : S0 (sSeq f k e g) N T := by
  unfold sSeq
  cases hf : f e g with
  | nx e1 g1 => rw [hf] at h; exact h
  | rt v g1 => rw [hf] at h; exact h
  | _ => rw [hf] at h; exact h.elim
theorem satFn0 {n N : Nat} {body : SS} {ps : List PV} {g : G} {P : PV → G → Prop} (hl : ps.length = n) (h : S0 (body (start' N ps) g) (fun _ g' => P .non g') P) : Sat (mkFn n N body ps g) P := by
  unfold mkFn
  rw [if_pos (by rw [hl]; exact Nat.beq_refl _)]
  cases hb : body (start' N ps) g with
  | nx e g' => rw [hb] at h; exact h
  | rt v g' => rw [hb] at h; exact h
  | _ => rw [hb] at h; exact h.elim
/-- as a structure: nothing looks into it on the way -/
structure SatS (r : RS) (N : Env → G → Prop) (T : PV → G → Prop) : Prop where
  h : S0 r N T
theorem SatS.imp {r : RS} {N N' : Env → G → Prop} {T T' : PV → G → Prop} (h : SatS r N T) (k : ∀ e g, N e g → N' e g) (k' : ∀ v g, T v g → T' v g) : SatS r N' T' := ⟨h.h.imp k k'⟩
theorem SatS.toS {α : Type} {r : Res α} {e : Env} {k : α → G → RS} {N : Env → G → Prop} {T : PV → G → Prop} (h : Sat r fun v g => SatS (k v g) N T) : SatS (r.toS e k) N T := ⟨S0.toS (h.imp fun _ _ q => q.h)⟩
theorem SatS.seq {f k : SS} {e : Env} {g : G} {N : Env → G → Prop} {T : PV → G → Prop} (h : SatS (f e g) (fun e1 g1 => SatS (k e1 g1) N T) T) : SatS (sSeq f k e g) N T := ⟨S0.seq (h.h.imp (fun _ _ q => q.h) fun _ _ q => q)⟩
theorem satFn {n N : Nat} {body : SS} {ps : List PV} {g : G} {P : PV → G → Prop} (hl : ps.length = n) (h : SatS (body (start' N ps) g) (fun _ g' => P .non g') P) : Sat (mkFn n N body ps g) P := satFn0 hl h.h
theorem fn_rt {n N : Nat} {body : SS} {ps : List PV} {g g' : G} {v : PV} (hl : ps.length = n) (h : body (start' N ps) g = .rt v g') : mkFn n N body ps g = .ok v g' := by
  unfold mkFn
  rw [if_pos (by rw [hl]; exact Nat.beq_refl _), h]
/-- a loop, by an invariant -/
theorem sat_for0 {p : Pat} {body : SS} {N : Env → G → Prop} {T : PV → G → Prop} {xs : List PV} (I : Nat → Env → G → Prop) (step : ∀ (k : Nat) (x : PV) (e : Env) (g : G), xs[k]? = some x → I k e g → ∃ e1, p.put x e = some e1 ∧ S0 (body e1 g) (I (k + 1)) T) (hN : ∀ e g, I xs.length e g → N e g) {e : Env} {g : G} (h : I 0 e g) :
    S0 (forRun p body xs e g) N T := by
  have gen : ∀ (l : List PV) (k : Nat) (e : Env) (g : G), xs.drop k = l → I k e g → k ≤ xs.length → S0 (forRun p body l e g) N T := by
    intro l
    induction l with
    | nil =>
      intro k e g hd hi hk
      have : xs.length ≤ k := by simpa using hd
      have e1 : k = xs.length := by omega
      subst e1
      exact hN e g hi
    | cons x l ih =>
      intro k e g hd hi hk
      have hx : xs[k]? = some x := by
        have := congrArg (fun l => l[0]?) hd
        simpa using this
      have hlt : k < xs.length := (List.getElem?_eq_some_iff.mp hx).1
      obtain ⟨e1, hp, hs⟩ := step k x e g hx hi
      unfold forRun
      rw [hp]
      dsimp only
      have hd2 : xs.drop (k + 1) = l := by
        rw [← List.drop_drop, hd]; rfl
      cases hb : body e1 g with
      | nx e2 g2 => rw [hb] at hs; exact ih (k + 1) e2 g2 hd2 hs hlt
      | rt v g2 => rw [hb] at hs; exact hs
      | _ => rw [hb] at hs; exact hs.elim
  exact gen xs 0 e g rfl h (Nat.zero_le _)
theorem sat_for {p : Pat} {body : SS} {N : Env → G → Prop} {T : PV → G → Prop} {xs : List PV} (I : Nat → Env → G → Prop) (step : ∀ (k : Nat) (x : PV) (e : Env) (g : G), xs[k]? = some x → I k e g → ∃ e1, p.put x e = some e1 ∧ SatS (body e1 g) (I (k + 1)) T) (hN : ∀ e g, I xs.length e g → N e g) {e : Env} {g : G} (h : I 0 e g) :
    SatS (forRun p body xs e g) N T := ⟨sat_for0 I (fun k x e g h1 h2 => let ⟨e1, h3, h4⟩ := step k x e g h1 h2; ⟨e1, h3, h4.h⟩) hN h⟩
/-- a comprehension without effects -/
theorem comp_map {α : Type} {p : Pat} {tt : ET} {te : EE} {e : Env} {g : G} (f : α → PV) (b : α → Bool) (y : α → PV) : ∀ {l : List α}, (∀ a ∈ l, ∃ e2, p.put (f a) e = some e2 ∧ tt e2 g = .ok (b a) g ∧ (b a = true → te e2 g = .ok (y a) g)) → compRun p tt te e (l.map f) g = .ok ((l.filter b).map y) g
  | [], _ => rfl
  | a :: l, h => by
    obtain ⟨e2, h1, h2, h3⟩ := h a (by simp)
    have ih := comp_map f b y fun a ha => h a (List.mem_cons_of_mem _ ha)
    rw [List.map_cons]
    unfold compRun
    rw [h1]
    simp only [h2, noExc, Res.bind]
    cases hb : b a with
    | true =>
      simp only [if_true, h3 hb, noExc, Res.bind, ih]
      rw [List.filter_cons_of_pos hb, List.map_cons]
    | false =>
      simp only [Bool.false_eq_true, if_false, ih]
      rw [List.filter_cons_of_neg (by rw [hb]; exact Bool.false_ne_true)]
theorem filter_true {α : Type} : ∀ l : List α, l.filter (fun _ => true) = l
  | [] => rfl
  | a :: l => by rw [List.filter_cons_of_pos rfl, filter_true l]
theorem comp_all {α : Type} {p : Pat} {te : EE} {e : Env} {g : G} (f : α → PV) (y : α → PV) {l : List α} (h : ∀ a ∈ l, ∃ e2, p.put (f a) e = some e2 ∧ te e2 g = .ok (y a) g) : compRun p tYes' te e (l.map f) g = .ok (l.map y) g := by
  have q := comp_map (p := p) (tt := tYes') (te := te) (e := e) (g := g) f (fun _ => true) y (l := l) fun a ha => by
    obtain ⟨e2, h1, h2⟩ := h a ha
    exact ⟨e2, h1, rfl, fun _ => h2⟩
  rw [filter_true] at q
  exact q
/-- a comprehension with effects, no test -/
theorem sat_comp {p : Pat} {te : EE} {e : Env} {P : List PV → G → Prop} {xs : List PV} (I : Nat → List PV → G → Prop) (step : ∀ (k : Nat) (x : PV) (acc : List PV) (g : G), xs[k]? = some x → I k acc g → ∃ e1, p.put x e = some e1 ∧ Sat (te e1 g) fun y g1 => I (k + 1) (acc ++ [y]) g1) (hN : ∀ acc g, I xs.length acc g → P acc g) {g : G} (h : I 0 [] g) :
    Sat (compRun p tYes' te e xs g) P := by
  have gen : ∀ (l : List PV) (k : Nat) (acc : List PV) (g : G), xs.drop k = l → I k acc g → k ≤ xs.length → Sat (compRun p tYes' te e l g) fun ys g' => P (acc ++ ys) g' := by
    intro l
    induction l with
    | nil =>
      intro k acc g hd hi hk
      have : xs.length ≤ k := by simpa using hd
      have e1 : k = xs.length := by omega
      subst e1
      show P (acc ++ []) g
      rw [List.append_nil]
      exact hN acc g hi
    | cons x l ih =>
      intro k acc g hd hi hk
      have hx : xs[k]? = some x := by
        have := congrArg (fun l => l[0]?) hd
        simpa using this
      have hlt : k < xs.length := (List.getElem?_eq_some_iff.mp hx).1
      obtain ⟨e1, hp, hs⟩ := step k x acc g hx hi
      have hd2 : xs.drop (k + 1) = l := by
        rw [← List.drop_drop, hd]; rfl
      unfold compRun
      rw [hp]
      simp only [tYes', noExc, Res.bind, if_true]
      cases ht : te e1 g with
      | ok y g2 =>
        rw [ht] at hs
        simp only [noExc]
        have q := ih (k + 1) (acc ++ [y]) g2 hd2 hs hlt
        cases hc : compRun p tYes' te e l g2 with
        | ok ys g3 =>
          rw [hc] at q
          simp only [Res.bind]
          show P (acc ++ y :: ys) g3
          have q : P (acc ++ [y] ++ ys) g3 := q
          rw [List.append_assoc] at q
          exact q
        | _ => rw [hc] at q; exact q.elim
      | _ => rw [ht] at hs; exact hs.elim
  exact (gen xs 0 [] g rfl h (Nat.zero_le _)).imp fun v g q => q
end Q

namespace Q
open PySem L2

/-! # the functions' equations, applied -/
/-- Res.bind, kept as it stands -/
def bnd {α β : Type} (r : Res α) (k : α → G → Res β) : Res β := r.bind k
section
variable {e : Env} {g : G} {i j : Nat} {f fa fb fc k : EE} {fk it : EL} {c t : ET} {op op' : Env → G → PV → PV → Option PV} {p : PV}
theorem ev_var : eVar i e g = match e[i]? with
  | some (.val p) => .ok p g
  | _ => .bad := Eq.trans rfl rfl
theorem ev_any : eAny i e g = match e[i]? with
  | some (.val p) => .ok p g
  | some (.own _) => .ok (.bor i) g
  | _ => .bad := Eq.trans rfl rfl
theorem ev_c : eC p e g = .ok p g := Eq.trans rfl rfl
theorem ev_bin : eBin op fa fb e g = bnd (fa e g) fun a g1 => bnd (fb e g1) fun b g2 => optR (op e g2 a b) g2 := Eq.trans rfl rfl
theorem ev_binF {op : Env → G → PV → PV → Option (List PV)} : eBinF op fa fb e g = bnd (fa e g) fun a g1 => bnd (fb e g1) fun b g2 => optR (op e g2 a b) g2 := Eq.trans rfl rfl
theorem ev_chain : eChain op op' fa fb fc e g = bnd (fa e g) fun a g1 => bnd (fb e g1) fun b g2 => bnd (optR (op e g2 a b) g2) fun k g3 => match k with
  | .bl true => bnd (fc e g3) fun c g4 => optR (op' e g4 b c) g4
  | .bl false => .ok (.bl false) g3
  | _ => .bad := Eq.trans rfl rfl
theorem ev_un {op : Env → G → PV → Option PV} : eUn op fa e g = bnd (fa e g) fun a g1 => optR (op e g1 a) g1 := Eq.trans rfl rfl
theorem ev_cons : aCons f fk e g = bnd (f e g) fun p g1 => bnd (fk e g1) fun ps g2 => .ok (p :: ps) g2 := Eq.trans rfl rfl
theorem ev_nil : aNil e g = .ok [] g := Eq.trans rfl rfl
theorem ev_tup : eTup fk e g = bnd (fk e g) fun ps g' => if fits ps.length then .ok (.tup ps) g' else .bad := Eq.trans rfl rfl
theorem ev_disp : eDisp fk e g = bnd (fk e g) fun ps g' => if fits ps.length then .ok ps g' else .bad := Eq.trans rfl rfl
theorem ev_lst : eLst fk e g = bnd (fk e g) fun xs g' => .ok (.lst xs) g' := Eq.trans rfl rfl
theorem ev_glo : eGlo fk e g = bnd (fk e g) fun xs g' => .ok (.ref g'.length) (g' ++ [.lst xs]) := Eq.trans rfl rfl
theorem ev_callB {op : Env → G → List PV → Option PV} : eCallB op fk e g = bnd (fk e g) fun ps g1 => optR (op e g1 ps) g1 := Eq.trans rfl rfl
theorem ev_callF {op : Env → G → List PV → Option (List PV)} : eCallF op fk e g = bnd (fk e g) fun ps g1 => optR (op e g1 ps) g1 := Eq.trans rfl rfl
theorem ev_call {F : Fn} : eCall F fk e g = bnd (fk e g) F := Eq.trans rfl rfl
theorem ev_if : eIf c f k e g = bnd (c e g) fun b g' => if b then f e g' else k e g' := Eq.trans rfl rfl
theorem ev_sl {fl fh : Env → G → Res (Option Int)} : eSl f fl fh e g = bnd (f e g) fun p g1 => bnd (fl e g1) fun lo g2 => bnd (fh e g2) fun hi g3 => optR (opSl e g3 p lo hi) g3 := Eq.trans rfl rfl
theorem ev_oN : oNone e g = .ok none g := Eq.trans rfl rfl
theorem ev_oS : oSome f e g = bnd (f e g) fun p g1 => match p with
  | .int i => .ok (some i) g1
  | _ => .bad := Eq.trans rfl rfl
theorem ev_rev : eRev f e g = bnd (f e g) fun p g1 => optR (opRev e g1 p) g1 := Eq.trans rfl rfl
theorem ev_isa {T : Kd} : eIsa T f e g = bnd (f e g) fun p g1 => match kdP e g1 p with
  | some k => .ok (.bl (isa k T)) g1
  | none => .bad := Eq.trans rfl rfl
theorem ev_tOf : tOf f e g = bnd (f e g) fun p g' => match p with
  | .bl b => .ok b g'
  | _ => .bad := Eq.trans rfl rfl
theorem ev_tAnd : tAnd' c t e g = bnd (c e g) fun b g' => if b then t e g' else .ok false g' := Eq.trans rfl rfl
theorem ev_tOr : tOr' c t e g = bnd (c e g) fun b g' => if b then .ok true g' else t e g' := Eq.trans rfl rfl
theorem ev_tNot : tNot' c e g = bnd (c e g) fun b g' => .ok (!b) g' := Eq.trans rfl rfl
theorem ev_andV : eAndV f k e g = bnd (f e g) fun b g' => match b with
  | .bl true => k e g'
  | .bl false => .ok (.bl false) g'
  | _ => .bad := Eq.trans rfl rfl
theorem ev_orV : eOrV f k e g = bnd (f e g) fun b g' => match b with
  | .bl true => .ok (.bl true) g'
  | .bl false => k e g'
  | _ => .bad := Eq.trans rfl rfl
theorem ev_notV : eNotV f e g = bnd (f e g) fun b g' => match b with
  | .bl b => .ok (.bl (!b)) g'
  | _ => .bad := Eq.trans rfl rfl
theorem ev_upper : eUpper f e g = bnd (f e g) fun p g1 => optR (opUpper p) g1 := Eq.trans rfl rfl
theorem ev_yes : tYes' e g = .ok true g := Eq.trans rfl rfl
theorem ev_comp {vs : List Nat} {q : Pat} {tt : ET} {te : EE} : eComp it vs q tt te e g = if vs.all (notOwn e) then bnd (it e g) fun items g1 => compRun q tt te (wipeE e vs) items g1 else .bad := Eq.trans rfl rfl
theorem ev_range1 : iRange1 f e g = bnd (f e g) fun p g1 => match p with
  | .int j => if decide (-4611686018427387904 ≤ j) && decide (j ≤ 16777216) then .ok (rangeL 0 j) g1 else .bad
  | _ => .bad := Eq.trans rfl rfl
theorem ev_range2 : iRange2 f k e g = bnd (f e g) fun p g1 => bnd (k e g1) fun p' g2 => match p, p' with
  | .int i, .int j => if decide (-4611686018427387904 ≤ i) && decide (i < 4611686018427387904) && decide (-4611686018427387904 ≤ j) && decide (j < 4611686018427387904) && decide (j - i ≤ 16777216) then .ok (rangeL i j) g2 else .bad
  | _, _ => .bad := Eq.trans rfl rfl
theorem ev_isq : iSq f e g = bnd (f e g) fun p g1 => optR (frSeq p) g1 := Eq.trans rfl rfl
theorem ev_zip2 : iZip2 fk e g = bnd (fk e g) fun ps g1 => match ps with
  | [p1, p2] => (match frSeq p1, frSeq p2 with
    | some l1, some l2 => .ok (zipP2 l1 l2) g1
    | _, _ => .bad)
  | _ => .bad := Eq.trans rfl rfl
theorem ev_zip3 : iZip3 fk e g = bnd (fk e g) fun ps g1 => match ps with
  | [p1, p2, p3] => (match frSeq p1, frSeq p2, frSeq p3 with
    | some l1, some l2, some l3 => .ok (zipP3 l1 l2 l3) g1
    | _, _, _ => .bad)
  | _ => .bad := Eq.trans rfl rfl
theorem ev_enum : iEnum f e g = bnd (f e g) fun p g1 => match frSeq p with
  | some l => .ok (enumP l) g1
  | none => .bad := Eq.trans rfl rfl
end
theorem optR_some {α : Type} {z : α} {g : G} : optR (some z) g = .ok z g := Eq.trans rfl rfl
theorem bind_ok {α β : Type} {v : α} {g : G} {k : α → G → Res β} : bnd (Res.ok v g) k = k v g := Eq.trans rfl rfl
theorem Sat_ok {α : Type} {v : α} {g : G} {P : α → G → Prop} : Sat (.ok v g) P = P v g := Eq.trans rfl rfl
theorem Sat_bind {α β : Type} {r : Res α} {k : α → G → Res β} {P : β → G → Prop} : Sat (bnd r k) P = Sat r fun v g => Sat (k v g) P := by cases r <;> rfl
section
variable {e : Env} {g : G} {i j : Nat} {f k : EE} {fk it : EL} {c : ET} {N : Env → G → Prop} {T : PV → G → Prop} {a b : SS}
theorem SatS.set (h : Sat (f e g) fun p g1 => N (e.set i (.val p)) g1) : SatS (sSet i f e g) N T := SatS.toS (h.imp fun _ _ q => ⟨q⟩)
theorem SatS.own (h : Sat (fk e g) fun p g1 => N (e.set i (.own (.lst p))) g1) : SatS (sOwn i fk e g) N T := SatS.toS (h.imp fun _ _ q => ⟨q⟩)
theorem SatS.ret (h : Sat (f e g) T) : SatS (sRet f e g) N T := SatS.toS (h.imp fun _ _ q => ⟨q⟩)
theorem SatS.retN (h : T .non g) : SatS (sRetN e g) N T := ⟨h⟩
theorem SatS.nil (h : N e g) : SatS (sNil e g) N T := ⟨h⟩
theorem SatS.ite (h : Sat (c e g) fun p g1 => SatS (if p then a e g1 else b e g1) N T) : SatS (sIf c a b e g) N T := by
  refine SatS.toS (h.imp fun p g1 q => ?_)
  cases p <;> exact q
theorem SatS.append {xs : List PV} (he : e[i]? = some (.own (.lst xs))) (h : Sat (f e g) fun p g1 => fits (xs.length + 1) = true ∧ N (e.set i (.own (.lst (xs ++ [p])))) g1) : SatS (sAppend i f e g) N T := by
  unfold sAppend
  rw [he]
  refine SatS.toS (h.imp fun p g1 q => ?_)
  rw [q.1]; exact ⟨q.2⟩
theorem SatS.fzm {xs : List PV} (he : e[i]? = some (.own (.lst xs))) (h : SatS (a (e.set i (.val (.lst xs))) g) N T) : SatS (sFzM i a e g) N T := by
  unfold sFzM
  rw [he]; exact h
theorem SatS.fzv {p : PV} (he : e[i]? = some (.val p)) (h : SatS (a e g) N T) : SatS (sFzM i a e g) N T := by
  unfold sFzM
  rw [he]; exact h
theorem SatS.asg {q : Pat} (h : Sat (f e g) fun v g1 => ∃ e1, q.put v e = some e1 ∧ N e1 g1) : SatS (sAsg q f e g) N T := by
  refine SatS.toS (h.imp fun v g1 ⟨e1, h1, h2⟩ => ?_)
  rw [h1]; exact ⟨h2⟩
theorem SatS.for_ {q : Pat} (h : Sat (it e g) fun xs g1 => SatS (forRun q a xs e g1) N T) : SatS (sFor it q a e g) N T := SatS.toS h
theorem SatS.setIx {xs : List PV} (he : e[i]? = some (.own (.lst xs))) (h : Sat (f e g) fun v g1 => Sat (k e g1) fun ix g2 => ∃ (z : Int) (j : Nat), ix = .int z ∧ ixN xs.length z = some j ∧ N (e.set i (.own (.lst (xs.set j v)))) g2) : SatS (sSetIx i f k e g) N T := by
  unfold sSetIx
  rw [he]
  refine SatS.toS (h.imp fun v g1 q => SatS.toS (q.imp fun ix g2 ⟨z, j, h1, h2, h3⟩ => ?_))
  subst h1
  simp only [h2]; exact ⟨h3⟩
theorem SatS.setG {fo : EE} (h : Sat (f e g) fun v g1 => Sat (fo e g1) fun o g2 => Sat (k e g2) fun ix g3 => ∃ (n : Nat) (z : Int) (xs : List PV) (j : Nat), o = .ref n ∧ ix = .int z ∧ g3[n]? = some (.lst xs) ∧ ixN xs.length z = some j ∧ N e (g3.set n (.lst (xs.set j v)))) : SatS (sSetG f fo k e g) N T := by
  unfold sSetG
  refine SatS.toS (h.imp fun v g1 q => SatS.toS (q.imp fun o g2 q => SatS.toS (q.imp fun ix g3 ⟨n, z, xs, j, h1, h2, h3, h4, h5⟩ => ?_)))
  subst h1 h2
  simp only [h3, h4]; exact ⟨h5⟩
end
end Q

namespace Q
open PySem
open L2 (atI ixN)
theorem opEq_int {f : Bool → Bool} {e : Env} {g : G} {i j : Int} : opEqB f e g (.int i) (.int j) = some (.bl (f (i == j))) := by
  unfold opEqB
  rw [if_pos (by simp [top, pureD])]
  simp [top, eqvP]
theorem range_at {n : Int} {k : Nat} {x : PV} (h : (rangeL 0 n)[k]? = some x) : x = .int (k : Nat) ∧ (k : Int) < n ∧ k < n.toNat := by
  have hk : k < (rangeL 0 n).length := (List.getElem?_eq_some_iff.mp h).1
  rw [rangeL_len] at hk
  rw [rangeL_get 0 n k hk] at h
  cases h
  refine ⟨by rw [Int.zero_add], by omega, by omega⟩
theorem rangeN_len (n : Nat) : (rangeL 0 (n : Int)).length = n := by rw [rangeL_len]; omega
theorem rg1 {j : Int} (h : 0 ≤ j) : decide (-4611686018427387904 ≤ j) = true := decide_eq_true (by omega)
theorem rg2 {j : Int} (h : j ≤ 1000000) : decide (j ≤ 16777216) = true := decide_eq_true (by omega)
theorem fits1000 {n : Nat} (h : n ≤ 1000000) : fits n = true := by unfold fits; exact Nat.ble_eq.mpr (by omega)
theorem small_of {i : Int} (h : -1000000000000 < i) (h' : i < 1000000000000) : Q.small64 i = true := by
  unfold Q.small64
  rw [decide_eq_true (by omega), decide_eq_true (by omega)]; rfl
theorem atI_nn {α : Type} {xs : List α} {i : Int} (h : 0 ≤ i) (h' : i < xs.length) : atI xs i = xs[i.toNat]? := by
  unfold atI ixN
  rw [if_pos h, if_pos h']; rfl
theorem atI_nat {α : Type} {xs : List α} {i : Nat} {x : α} (h : xs[i]? = some x) : atI xs (i : Int) = some x := by
  have hi := (List.getElem?_eq_some_iff.mp h).1
  rw [atI_nn (by omega) (by omega), Int.toNat_natCast, h]
/-- a tuple of ints -/
abbrev ti (l : List Int) : PV := .tup (l.map .int)
/-- a deed, a net -/
abbrev dp (d : List Int × List Int) : PV := .tup [ti d.1, ti d.2]
abbrev netP (n : Nat) (ds : List (List Int × List Int)) : PV := .tup [.int n, .tup (ds.map dp)]
structure Side (n : Nat) (l : List Int) : Prop where
  len : l.length = n
  nn : ∀ x ∈ l, 0 ≤ x ∧ x ≤ 10
structure NetOk (n : Nat) (ds : List (List Int × List Int)) : Prop where
  n1 : 1 ≤ n
  n5 : n ≤ 5
  m1 : 1 ≤ ds.length
  m5 : ds.length ≤ 5
  d1 : ∀ d ∈ ds, Side n d.1
  d2 : ∀ d ∈ ds, Side n d.2
end Q

namespace K24
open PySem L2 Q
abbrev Nis_integer : List Str := ["value"]
def Bis_integer : SS := (sRet (eAndV (eIsa .int (eVar 0)) (eNotV (eIsa .bool (eVar 0)))))
def Fis_integer : Fn := mkFn 1 1 Bis_integer
abbrev Nis_number : List Str := ["value", "low", "high"]
def Bis_number : SS := (sRet (eAndV (eCall Fis_integer (aCons (eVar 0) aNil)) (eChain opLe opLe (eVar 1) (eVar 0) (eVar 2))))
def Fis_number : Fn := mkFn 3 3 Bis_number
abbrev Nis_tuple : List Str := ["value", "size"]
def Bis_tuple : SS := (sRet (eAndV (eIsa .tuple (eVar 0)) (eBin opEq (eCallB opLen (aCons (eVar 0) aNil)) (eVar 1))))
def Fis_tuple : Fn := mkFn 2 2 Bis_tuple
abbrev Nplus : List Str := ["a", "b", "x", "y"]
def Bplus : SS := (sRet (eCallB opTuple (aCons (eLst (eComp (iZip2 (aCons (eVar 0) (aCons (eVar 1) aNil))) [2, 3] (.tp [(.nm 2), (.nm 3)]) tYes' (eBin opAdd (eVar 2) (eVar 3)))) aNil)))
def Fplus : Fn := mkFn 2 4 Bplus
abbrev Nis_within : List Str := ["a", "b", "x", "y"]
def Bis_within : SS := (sRet (eCallB opAll (aCons (eLst (eComp (iZip2 (aCons (eVar 0) (aCons (eVar 1) aNil))) [2, 3] (.tp [(.nm 2), (.nm 3)]) tYes' (eBin opLe (eVar 2) (eVar 3)))) aNil)))
def Fis_within : Fn := mkFn 2 4 Bis_within
abbrev Nis_step : List Str := ["net", "value", "one"]
def Bis_step : SS := (sSeq (sIf (tOr' (tNot' (tOf (eCall Fis_tuple (aCons (eVar 1) (aCons (eCallB opLen (aCons (eBin opIx (eVar 0) (eC (.int 1))) aNil)) aNil))))) (tNot' (tOf (eCallB opAll (aCons (eLst (eComp (iSq (eVar 1)) [2] (.nm 2) tYes' (eCall Fis_number (aCons (eVar 2) (aCons (eC (.int 0)) (aCons (eC (.int 9)) aNil)))))) aNil))))) (sRet (eC (.bl false))) sNil)
    (sRet (eCallB opAny (aCons (eLst (eComp (iSq (eVar 1)) [2] (.nm 2) tYes' (eBin opGt (eVar 2) (eC (.int 0))))) aNil))))
def Fis_step : Fn := mkFn 2 3 Bis_step
abbrev Ntaken_by : List Str := ["net", "step", "found", "many", "takes", "_", "one"]
def Btaken_by : SS := (sSeq (sSet 2 (eBin opMul (eTup (aCons (eC (.int 0)) aNil)) (eBin opIx (eVar 0) (eC (.int 0)))))
    (sSeq (sFor (iZip2 (aCons (eVar 1) (aCons (eBin opIx (eVar 0) (eC (.int 1))) aNil))) (.tp [(.nm 3), (.tp [(.nm 4), (.nm 5)])]) (sSet 2 (eCall Fplus (aCons (eVar 2) (aCons (eCallB opTuple (aCons (eLst (eComp (iSq (eVar 4)) [6] (.nm 6) tYes' (eBin opMul (eVar 3) (eVar 6)))) aNil)) aNil)))))
    (sRet (eVar 2))))
def Ftaken_by : Fn := mkFn 2 7 Btaken_by
abbrev Ngiven_by : List Str := ["net", "step", "found", "many", "_", "gives", "one"]
def Bgiven_by : SS := (sSeq (sSet 2 (eBin opMul (eTup (aCons (eC (.int 0)) aNil)) (eBin opIx (eVar 0) (eC (.int 0)))))
    (sSeq (sFor (iZip2 (aCons (eVar 1) (aCons (eBin opIx (eVar 0) (eC (.int 1))) aNil))) (.tp [(.nm 3), (.tp [(.nm 4), (.nm 5)])]) (sSet 2 (eCall Fplus (aCons (eVar 2) (aCons (eCallB opTuple (aCons (eLst (eComp (iSq (eVar 5)) [6] (.nm 6) tYes' (eBin opMul (eVar 3) (eVar 6)))) aNil)) aNil)))))
    (sRet (eVar 2))))
def Fgiven_by : Fn := mkFn 2 7 Bgiven_by
abbrev Ncan_step : List Str := ["net", "marking", "step"]
def Bcan_step : SS := (sRet (eCall Fis_within (aCons (eCall Ftaken_by (aCons (eVar 0) (aCons (eVar 2) aNil))) (aCons (eVar 1) aNil))))
def Fcan_step : Fn := mkFn 3 3 Bcan_step
abbrev Nbehind_step : List Str := ["net", "marking", "step", "a", "b", "c"]
def Bbehind_step : SS := (sSeq (sIf (tNot' (tOf (eCall Fcan_step (aCons (eVar 0) (aCons (eVar 1) (aCons (eVar 2) aNil)))))) (sRet (eC .non)) sNil)
    (sRet (eCallB opTuple (aCons (eLst (eComp (iZip3 (aCons (eVar 1) (aCons (eCall Ftaken_by (aCons (eVar 0) (aCons (eVar 2) aNil))) (aCons (eCall Fgiven_by (aCons (eVar 0) (aCons (eVar 2) aNil))) aNil)))) [3, 4, 5] (.tp [(.nm 3), (.nm 4), (.nm 5)]) tYes' (eBin opAdd (eBin opSub (eVar 3) (eVar 4)) (eVar 5)))) aNil))))
def Fbehind_step : Fn := mkFn 3 6 Bbehind_step
abbrev Nsteps_at : List Str := ["net", "marking", "most", "found", "deed", "longer", "row", "many", "own", "one"]
def Bsteps_at : SS := (sSeq (sSet 3 (eLst (eDisp (aCons (eTup aNil) aNil))))
    (sSeq (sFor (iRange1 (eCallB opLen (aCons (eBin opIx (eVar 0) (eC (.int 1))) aNil))) (.nm 4) (sSeq (sOwn 5 (eDisp aNil))
    (sSeq (sFor (iSq (eVar 3)) (.nm 6) (sFor (iRange1 (eBin opAdd (eVar 2) (eC (.int 1)))) (.nm 7) (sSeq (sSet 8 (eBin opAdd (eBin opAdd (eVar 6) (eTup (aCons (eVar 7) aNil))) (eBin opMul (eTup (aCons (eC (.int 0)) aNil)) (eBin opSub (eBin opSub (eCallB opLen (aCons (eBin opIx (eVar 0) (eC (.int 1))) aNil)) (eVar 4)) (eC (.int 1))))))
    (sIf (tOf (eCall Fcan_step (aCons (eVar 0) (aCons (eVar 1) (aCons (eVar 8) aNil))))) (sAppend 5 (eBin opAdd (eVar 6) (eTup (aCons (eVar 7) aNil)))) sNil))))
    (sFzM 5 (sSet 3 (eVar 5))))))
    (sRet (eLst (eCallF opSorted (aCons (eLst (eComp (iSq (eVar 3)) [6] (.nm 6) (tOf (eCallB opAny (aCons (eLst (eComp (iSq (eVar 6)) [9] (.nm 9) tYes' (eBin opGt (eVar 9) (eC (.int 0))))) aNil))) (eVar 6))) aNil))))))
def Fsteps_at : Fn := mkFn 3 10 Bsteps_at
abbrev Ngreatest_steps : List Str := ["net", "marking", "most", "rows", "row", "other"]
def Bgreatest_steps : SS := (sSeq (sSet 3 (eCall Fsteps_at (aCons (eVar 0) (aCons (eVar 1) (aCons (eVar 2) aNil)))))
    (sRet (eLst (eComp (iSq (eVar 3)) [4] (.nm 4) (tNot' (tOf (eCallB opAny (aCons (eLst (eComp (iSq (eVar 3)) [5] (.nm 5) tYes' (eAndV (eBin opNe (eVar 5) (eVar 4)) (eCall Fis_within (aCons (eVar 4) (aCons (eVar 5) aNil)))))) aNil)))) (eVar 4)))))
def Fgreatest_steps : Fn := mkFn 3 6 Bgreatest_steps
abbrev Nrow_of_step : List Str := ["step", "found", "deed", "many"]
def Brow_of_step : SS := (sSeq (sSet 1 (eTup aNil))
    (sSeq (sFor (iEnum (eVar 0)) (.tp [(.nm 2), (.nm 3)]) (sSet 1 (eBin opAdd (eVar 1) (eBin opMul (eTup (aCons (eVar 2) aNil)) (eVar 3)))))
    (sRet (eVar 1))))
def Frow_of_step : Fn := mkFn 1 4 Brow_of_step
abbrev N_law_cell : List Str := ["script", "k"]
def B_law_cell : SS := (sSeq (sIf (tOf (eBin opLt (eVar 1) (eCallB opLen (aCons (eVar 0) aNil)))) (sRet (eBin opIx (eVar 0) (eVar 1))) sNil)
    (sRet (eC (.int 0))))
def F_law_cell : Fn := mkFn 2 2 B_law_cell
abbrev N_law_numbers : List Str := ["cell", "many", "rows", "left", "k", "mixed"]
def B_law_numbers : SS := (sSeq (sOwn 2 (eDisp aNil))
    (sSeq (sSet 3 (eVar 0))
    (sSeq (sFor (iRange1 (eVar 1)) (.nm 4) (sIf (tAnd' (tOf (eBin opGe (eVar 0) (eBin opPow (eC (.int 10)) (eC (.int 18))))) (tOf (eBin opGt (eVar 3) (eC (.int 0))))) (sSeq (sAppend 2 (eBin opMod (eCallB opInt (aCons (eVar 3) aNil)) (eC (.int 4099))))
    (sSet 3 (eBin opDiv (eVar 3) (eC (.int 4099))))) (sSeq (sSet 5 (eBin opMod (eCallB opInt (aCons (eBin opAdd (eBin opMul (eVar 0) (eC (.int 69621))) (eBin opMul (eBin opAdd (eVar 4) (eC (.int 1))) (eC (.int 48271)))) aNil)) (eC (.int 2147483647))))
    (sSeq (sSet 5 (eBin opMod (eCallB opInt (aCons (eBin opAdd (eBin opAdd (eBin opMul (eVar 5) (eVar 5)) (eBin opMul (eVar 5) (eC (.int 16807)))) (eBin opMul (eVar 4) (eC (.int 7919)))) aNil)) (eC (.int 2147483629))))
    (sSeq (sSet 5 (eBin opMod (eCallB opInt (aCons (eBin opAdd (eBin opAdd (eBin opMul (eVar 5) (eVar 5)) (eVar 0)) (eBin opMul (eC (.int 17)) (eVar 4))) aNil)) (eC (.int 2147483587))))
    (sAppend 2 (eBin opMod (eBin opDiv (eVar 5) (eC (.int 5))) (eC (.int 4099)))))))))
    (sFzM 2 (sRet (eVar 2))))))
def F_law_numbers : Fn := mkFn 2 6 B_law_numbers
abbrev N_law_pool : List Str := ["script", "rows", "k"]
def B_law_pool : SS := (sSeq (sSet 1 (eLst (eDisp aNil)))
    (sSeq (sFor (iRange1 (eCallB opMin (aCons (eC (.int 6)) (aCons (eCallB opMax (aCons (eC (.int 1)) (aCons (eCallB opLen (aCons (eVar 0) aNil)) aNil))) aNil)))) (.nm 2) (sSet 1 (eBin opAdd (eVar 1) (eCall F_law_numbers (aCons (eBin opAdd (eCall F_law_cell (aCons (eVar 0) (aCons (eVar 2) aNil))) (eBin opMul (eC (.int 11)) (eVar 2))) (aCons (eC (.int 24)) aNil))))))
    (sRet (eLst (eDisp (aCons (eVar 1) (aCons (eGlo (eDisp (aCons (eC (.int 0)) aNil))) aNil)))))))
def F_law_pool : Fn := mkFn 1 3 B_law_pool
abbrev N_law_draw : List Str := ["pool", "many", "at", "turn"]
def B_law_draw : SS := (sSeq (sSet 2 (eBin opIx (eBin opIx (eVar 0) (eC (.int 1))) (eC (.int 0))))
    (sSeq (sSetG (eBin opAdd (eVar 2) (eC (.int 1))) (eBin opIx (eVar 0) (eC (.int 1))) (eC (.int 0)))
    (sSeq (sSet 3 (eBin opDiv (eVar 2) (eCallB opLen (aCons (eBin opIx (eVar 0) (eC (.int 0))) aNil))))
    (sRet (eBin opMod (eCallB opInt (aCons (eBin opAdd (eBin opAdd (eBin opIx (eBin opIx (eVar 0) (eC (.int 0))) (eBin opMod (eVar 2) (eCallB opLen (aCons (eBin opIx (eVar 0) (eC (.int 0))) aNil)))) (eBin opMul (eVar 3) (eC (.int 1013)))) (eBin opMul (eBin opMul (eVar 3) (eVar 2)) (eC (.int 7)))) aNil)) (eVar 1))))))
def F_law_draw : Fn := mkFn 2 4 B_law_draw
abbrev N_law_kind : List Str := ["x"]
def B_law_kind : SS := (sSeq (sIf (tOf (eIsa .bool (eVar 0))) (sRet (eC (.int 1))) sNil)
    (sSeq (sIf (tOf (eIsa .int (eVar 0))) (sRet (eC (.int 2))) sNil)
    (sSeq (sIf (tOf (eIsa .str (eVar 0))) (sRet (eC (.int 3))) sNil)
    (sSeq (sIf (tOf (eIsa .tuple (eVar 0))) (sRet (eC (.int 4))) sNil)
    (sSeq (sIf (tOf (eIsa .list (eVar 0))) (sRet (eC (.int 5))) sNil)
    (sSeq (sIf (tOf (eBin opIs (eVar 0) (eC .non))) (sRet (eC (.int 6))) sNil)
    (sRet (eC (.int 0)))))))))
def F_law_kind : Fn := mkFn 1 1 B_law_kind
abbrev N_law_equal : List Str := ["x", "due", "k"]
def B_law_equal (self : Fn) : SS := (sSeq (sIf (tOr' (tOf (eBin opNe (eCall F_law_kind (aCons (eVar 0) aNil)) (eCall F_law_kind (aCons (eVar 1) aNil)))) (tOf (eBin opEq (eCall F_law_kind (aCons (eVar 0) aNil)) (eC (.int 0))))) (sRet (eC (.bl false))) sNil)
    (sSeq (sIf (tOr' (tOf (eIsa .tuple (eVar 1))) (tOf (eIsa .list (eVar 1)))) (sSeq (sIf (tOf (eBin opNe (eCallB opLen (aCons (eVar 0) aNil)) (eCallB opLen (aCons (eVar 1) aNil)))) (sRet (eC (.bl false))) sNil)
    (sSeq (sFor (iRange1 (eCallB opLen (aCons (eVar 1) aNil))) (.nm 2) (sIf (tNot' (tOf (eCall self (aCons (eBin opIx (eVar 0) (eVar 2)) (aCons (eBin opIx (eVar 1) (eVar 2)) aNil))))) (sRet (eC (.bl false))) sNil))
    (sRet (eC (.bl true))))) sNil)
    (sRet (eBin opEq (eVar 0) (eVar 1)))))
def F_law_equal : Nat → Fn
  | 0 => noFn
  | k + 1 => mkFn 2 3 (B_law_equal (F_law_equal k))
abbrev N_law_is : List Str := ["x", "due"]
def B_law_is : SS := (sSeq (sIf (tOf (eVar 1)) (sRet (eBin opIs (eVar 0) (eC (.bl true)))) sNil)
    (sRet (eBin opIs (eVar 0) (eC (.bl false)))))
def F_law_is : Fn := mkFn 2 2 B_law_is
abbrev N_law_int : List Str := ["x", "low", "high"]
def B_law_int : SS := (sRet (eAndV (eBin opEq (eCall F_law_kind (aCons (eVar 0) aNil)) (eC (.int 2))) (eChain opLe opLe (eVar 1) (eVar 0) (eVar 2))))
def F_law_int : Fn := mkFn 3 3 B_law_int
abbrev N_law_ints : List Str := ["x", "low", "high", "one"]
def B_law_ints : SS := (sSeq (sIf (tNot' (tOf (eIsa .tuple (eVar 0)))) (sRet (eC (.bl false))) sNil)
    (sSeq (sFor (iSq (eVar 0)) (.nm 3) (sIf (tNot' (tOf (eCall F_law_int (aCons (eVar 3) (aCons (eVar 1) (aCons (eVar 2) aNil)))))) (sRet (eC (.bl false))) sNil))
    (sRet (eC (.bl true)))))
def F_law_ints : Fn := mkFn 3 4 B_law_ints
abbrev N_law_bent : List Str := ["pool", "value", "way", "at", "other", "low", "high"]
def B_law_bent (self : Fn) : SS := (sSeq (sIf (tOf (eIsa .tuple (eVar 1))) (sSeq (sSet 2 (eCall F_law_draw (aCons (eVar 0) (aCons (eC (.int 10)) aNil))))
    (sSeq (sIf (tOr' (tOf (eBin opEq (eCallB opLen (aCons (eVar 1) aNil)) (eC (.int 0)))) (tOf (eBin opEq (eVar 2) (eC (.int 0))))) (sRet (eBin opAdd (eVar 1) (eTup (aCons (eBin opIx (eLst (eDisp (aCons (eC (.int 0)) (aCons (eC (.int 1)) (aCons (eTup aNil) (aCons (eTup (aCons (eC (.int 0)) (aCons (eC (.int 0)) aNil))) aNil)))))) (eCall F_law_draw (aCons (eVar 0) (aCons (eC (.int 4)) aNil)))) aNil)))) sNil)
    (sSeq (sSet 3 (eCall F_law_draw (aCons (eVar 0) (aCons (eCallB opLen (aCons (eVar 1) aNil)) aNil))))
    (sSeq (sIf (tOf (eBin opEq (eVar 2) (eC (.int 1)))) (sRet (eBin opAdd (eSl (eVar 1) oNone (oSome (eVar 3))) (eSl (eVar 1) (oSome (eBin opAdd (eVar 3) (eC (.int 1)))) oNone))) sNil)
    (sSeq (sIf (tAnd' (tOf (eBin opEq (eVar 2) (eC (.int 2)))) (tOf (eBin opEq (eCall F_law_draw (aCons (eVar 0) (aCons (eC (.int 3)) aNil))) (eC (.int 0))))) (sRet (eLst (eCallF opList (aCons (eVar 1) aNil)))) sNil)
    (sSeq (sIf (tOf (eBin opEq (eVar 2) (eC (.int 3)))) (sRet (eBin opAdd (eBin opAdd (eSl (eVar 1) oNone (oSome (eVar 3))) (eTup (aCons (eBin opIx (eVar 1) (eVar 3)) aNil))) (eSl (eVar 1) (oSome (eVar 3)) oNone))) sNil)
    (sSeq (sIf (tAnd' (tOf (eBin opEq (eVar 2) (eC (.int 4)))) (tOf (eBin opGt (eCallB opLen (aCons (eVar 1) aNil)) (eC (.int 1))))) (sSeq (sSet 4 (eBin opMod (eBin opAdd (eVar 3) (eC (.int 1))) (eCallB opLen (aCons (eVar 1) aNil))))
    (sSeq (sSet 5 (eCallB opMin (aCons (eVar 3) (aCons (eVar 4) aNil))))
    (sSeq (sSet 6 (eCallB opMax (aCons (eVar 3) (aCons (eVar 4) aNil))))
    (sRet (eBin opAdd (eBin opAdd (eBin opAdd (eBin opAdd (eSl (eVar 1) oNone (oSome (eVar 5))) (eTup (aCons (eBin opIx (eVar 1) (eVar 6)) aNil))) (eSl (eVar 1) (oSome (eBin opAdd (eVar 5) (eC (.int 1)))) (oSome (eVar 6)))) (eTup (aCons (eBin opIx (eVar 1) (eVar 5)) aNil))) (eSl (eVar 1) (oSome (eBin opAdd (eVar 6) (eC (.int 1)))) oNone)))))) sNil)
    (sRet (eBin opAdd (eBin opAdd (eSl (eVar 1) oNone (oSome (eVar 3))) (eTup (aCons (eCall self (aCons (eVar 0) (aCons (eBin opIx (eVar 1) (eVar 3)) aNil))) aNil))) (eSl (eVar 1) (oSome (eBin opAdd (eVar 3) (eC (.int 1)))) oNone)))))))))) sNil)
    (sSeq (sIf (tOf (eIsa .str (eVar 1))) (sRet (eBin opIx (eLst (eDisp (aCons (eBin opAdd (eVar 1) (eC (.str "x"))) (aCons (eC (.str "")) (aCons (eUpper (eVar 1)) (aCons (eC .non) (aCons (eC (.int 0)) aNil))))))) (eCall F_law_draw (aCons (eVar 0) (aCons (eC (.int 5)) aNil))))) sNil)
    (sSeq (sIf (tOf (eBin opEq (eCall F_law_kind (aCons (eVar 1) aNil)) (eC (.int 2)))) (sRet (eBin opIx (eLst (eDisp (aCons (eBin opAdd (eVar 1) (eC (.int 1))) (aCons (eBin opSub (eVar 1) (eC (.int 1))) (aCons (eBin opAdd (eVar 1) (eC (.int 1))) (aCons (eBin opSub (eVar 1) (eC (.int 1))) (aCons (eC (.int 0)) (aCons (eBin opAdd (eVar 1) (eC (.int 16))) (aCons (eC (.bl true)) (aCons (eC .non) (aCons (eCallB opStr (aCons (eVar 1) aNil)) (aCons (eTup (aCons (eVar 1) aNil)) aNil)))))))))))) (eCall F_law_draw (aCons (eVar 0) (aCons (eC (.int 10)) aNil))))) sNil)
    (sRet (eBin opIx (eLst (eDisp (aCons (eC (.int 0)) (aCons (eTup aNil) (aCons (eC (.bl false)) (aCons (eC (.str "x")) aNil)))))) (eCall F_law_draw (aCons (eVar 0) (aCons (eC (.int 4)) aNil))))))))
def F_law_bent : Nat → Fn
  | 0 => noFn
  | k + 1 => mkFn 2 7 (B_law_bent (F_law_bent k))
abbrev N_law_bends : List Str := ["pool", "value", "many", "rows", "k", "one"]
def B_law_bends : SS := (sSeq (sOwn 3 (eDisp (aCons (eVar 1) aNil)))
    (sSeq (sFor (iRange1 (eVar 2)) (.nm 4) (sSeq (sSet 5 (eCall (F_law_bent 6) (aCons (eVar 0) (aCons (eVar 1) aNil))))
    (sSeq (sIf (tOf (eBin opEq (eCall F_law_draw (aCons (eVar 0) (aCons (eC (.int 5)) aNil))) (eC (.int 0)))) (sSet 5 (eCall (F_law_bent 6) (aCons (eVar 0) (aCons (eVar 5) aNil)))) sNil)
    (sAppend 3 (eVar 5)))))
    (sRet (eBin opAdd (eAny 3) (eLst (eDisp (aCons (eC .non) (aCons (eC (.int 0)) (aCons (eC (.bl true)) (aCons (eC (.str "")) (aCons (eTup aNil) (aCons (eLst (eDisp aNil)) (aCons (eC (.str "x")) (aCons (eTup (aCons (eC (.int 0)) aNil)) (aCons (eTup (aCons (eC (.str "x")) (aCons (eC (.int 1)) aNil))) (aCons (eVar 1) aNil))))))))))))))))
def F_law_bends : Fn := mkFn 3 6 B_law_bends
abbrev N_law_side : List Str := ["pool", "places", "weight", "lean", "k"]
def B_law_side : SS := (sRet (eCallB opTuple (aCons (eLst (eComp (iRange1 (eVar 1)) [4] (.nm 4) tYes' (eBin opIx (eLst (eDisp (aCons (eC (.int 0)) (aCons (eBin opAdd (eC (.int 1)) (eCall F_law_draw (aCons (eVar 0) (aCons (eVar 2) aNil)))) aNil)))) (eCallB opInt (aCons (eBin opEq (eCall F_law_draw (aCons (eVar 0) (aCons (eVar 3) aNil))) (eC (.int 0))) aNil))))) aNil)))
def F_law_side : Fn := mkFn 4 5 B_law_side
abbrev N_law_free_net : List Str := ["pool", "places", "deeds", "weight", "k"]
def B_law_free_net : SS := (sRet (eTup (aCons (eVar 1) (aCons (eCallB opTuple (aCons (eLst (eComp (iRange1 (eVar 2)) [4] (.nm 4) tYes' (eTup (aCons (eCall F_law_side (aCons (eVar 0) (aCons (eVar 1) (aCons (eVar 3) (aCons (eC (.int 2)) aNil))))) (aCons (eCall F_law_side (aCons (eVar 0) (aCons (eVar 1) (aCons (eVar 3) (aCons (eC (.int 2)) aNil))))) aNil))))) aNil)) aNil))))
def F_law_free_net : Fn := mkFn 4 5 B_law_free_net
abbrev N_law_even_net : List Str := ["pool", "places", "deeds", "rows", "k", "many", "sides", "side", "marks", "j", "at"]
def B_law_even_net : SS := (sSeq (sOwn 3 (eDisp aNil))
    (sSeq (sFor (iRange1 (eVar 2)) (.nm 4) (sSeq (sSet 5 (eBin opAdd (eC (.int 1)) (eCall F_law_draw (aCons (eVar 0) (aCons (eC (.int 2)) aNil)))))
    (sSeq (sOwn 6 (eDisp aNil))
    (sSeq (sFor (iRange1 (eC (.int 2))) (.nm 7) (sSeq (sOwn 8 (eBinF opMulL (eLst (eDisp (aCons (eC (.int 0)) aNil))) (eVar 1)))
    (sSeq (sFor (iRange1 (eVar 5)) (.nm 9) (sSeq (sSet 10 (eCall F_law_draw (aCons (eVar 0) (aCons (eVar 1) aNil))))
    (sSetIx 8 (eBin opAdd (eBin opIx (eAny 8) (eVar 10)) (eC (.int 1))) (eVar 10))))
    (sAppend 6 (eCallB opTuple (aCons (eAny 8) aNil))))))
    (sAppend 3 (eTup (aCons (eBin opIx (eAny 6) (eC (.int 0))) (aCons (eBin opIx (eAny 6) (eC (.int 1))) aNil))))))))
    (sRet (eTup (aCons (eVar 1) (aCons (eCallB opTuple (aCons (eAny 3) aNil)) aNil))))))
def F_law_even_net : Fn := mkFn 3 11 B_law_even_net
abbrev N_law_less_net : List Str := ["pool", "places", "deeds", "rows", "takes", "gives", "one"]
def B_law_less_net : SS := (sSeq (sOwn 3 (eDisp aNil))
    (sSeq (sFor (iSq (eBin opIx (eCall F_law_even_net (aCons (eVar 0) (aCons (eVar 1) (aCons (eVar 2) aNil)))) (eC (.int 1)))) (.tp [(.nm 4), (.nm 5)]) (sSeq (sIf (tOf (eBin opEq (eCall F_law_draw (aCons (eVar 0) (aCons (eC (.int 3)) aNil))) (eC (.int 0)))) (sSet 5 (eCallB opTuple (aCons (eLst (eComp (iSq (eVar 5)) [6] (.nm 6) tYes' (eCallB opMax (aCons (eC (.int 0)) (aCons (eBin opSub (eVar 6) (eCallB opInt (aCons (eBin opEq (eCall F_law_draw (aCons (eVar 0) (aCons (eC (.int 2)) aNil))) (eC (.int 0))) aNil))) aNil))))) aNil))) sNil)
    (sAppend 3 (eTup (aCons (eVar 4) (aCons (eVar 5) aNil))))))
    (sRet (eTup (aCons (eVar 1) (aCons (eCallB opTuple (aCons (eAny 3) aNil)) aNil))))))
def F_law_less_net : Fn := mkFn 3 7 B_law_less_net
abbrev N_law_machine : List Str := ["pool", "places", "deeds", "rows", "k", "a", "b", "at"]
def B_law_machine : SS := (sSeq (sOwn 3 (eDisp aNil))
    (sSeq (sFor (iRange1 (eVar 2)) (.nm 4) (sSeq (sSet 5 (eCall F_law_draw (aCons (eVar 0) (aCons (eVar 1) aNil))))
    (sSeq (sSet 6 (eCall F_law_draw (aCons (eVar 0) (aCons (eVar 1) aNil))))
    (sAppend 3 (eTup (aCons (eCallB opTuple (aCons (eLst (eComp (iRange1 (eVar 1)) [7] (.nm 7) tYes' (eCallB opInt (aCons (eBin opEq (eVar 7) (eVar 5)) aNil)))) aNil)) (aCons (eCallB opTuple (aCons (eLst (eComp (iRange1 (eVar 1)) [7] (.nm 7) tYes' (eCallB opInt (aCons (eBin opEq (eVar 7) (eVar 6)) aNil)))) aNil)) aNil)))))))
    (sRet (eTup (aCons (eVar 1) (aCons (eCallB opTuple (aCons (eAny 3) aNil)) aNil))))))
def F_law_machine : Fn := mkFn 3 8 B_law_machine
abbrev N_law_graph : List Str := ["pool", "places", "deeds", "takes", "gives", "place", "k"]
def B_law_graph : SS := (sSeq (sSet 3 (eLst (eComp (iRange1 (eVar 2)) [6] (.nm 6) tYes' (eGlo (eBinF opMulL (eLst (eDisp (aCons (eC (.int 0)) aNil))) (eVar 1))))))
    (sSeq (sSet 4 (eLst (eComp (iRange1 (eVar 2)) [6] (.nm 6) tYes' (eGlo (eBinF opMulL (eLst (eDisp (aCons (eC (.int 0)) aNil))) (eVar 1))))))
    (sSeq (sFor (iRange1 (eVar 1)) (.nm 5) (sSeq (sSetG (eC (.int 1)) (eBin opIx (eVar 4) (eCall F_law_draw (aCons (eVar 0) (aCons (eVar 2) aNil)))) (eVar 5))
    (sSetG (eC (.int 1)) (eBin opIx (eVar 3) (eCall F_law_draw (aCons (eVar 0) (aCons (eVar 2) aNil)))) (eVar 5))))
    (sRet (eTup (aCons (eVar 1) (aCons (eCallB opTuple (aCons (eLst (eComp (iRange1 (eVar 2)) [6] (.nm 6) tYes' (eTup (aCons (eCallB opTuple (aCons (eBin opIx (eVar 3) (eVar 6)) aNil)) (aCons (eCallB opTuple (aCons (eBin opIx (eVar 4) (eVar 6)) aNil)) aNil))))) aNil)) aNil)))))))
def F_law_graph : Fn := mkFn 3 7 B_law_graph
abbrev N_law_net : List Str := ["pool", "places", "deeds", "way"]
def B_law_net : SS := (sSeq (sSet 1 (eBin opAdd (eC (.int 1)) (eCall F_law_draw (aCons (eVar 0) (aCons (eC (.int 5)) aNil)))))
    (sSeq (sSet 2 (eBin opAdd (eC (.int 1)) (eCall F_law_draw (aCons (eVar 0) (aCons (eC (.int 5)) aNil)))))
    (sSeq (sSet 3 (eCall F_law_draw (aCons (eVar 0) (aCons (eC (.int 7)) aNil))))
    (sSeq (sIf (tOf (eBin opEq (eVar 3) (eC (.int 0)))) (sRet (eCall F_law_free_net (aCons (eVar 0) (aCons (eVar 1) (aCons (eVar 2) (aCons (eBin opAdd (eC (.int 1)) (eCall F_law_draw (aCons (eVar 0) (aCons (eC (.int 3)) aNil)))) aNil)))))) sNil)
    (sSeq (sIf (tOf (eBin opEq (eVar 3) (eC (.int 1)))) (sRet (eCall F_law_machine (aCons (eVar 0) (aCons (eVar 1) (aCons (eVar 2) aNil))))) sNil)
    (sSeq (sIf (tOf (eBin opEq (eVar 3) (eC (.int 2)))) (sRet (eCall F_law_graph (aCons (eVar 0) (aCons (eVar 1) (aCons (eVar 2) aNil))))) sNil)
    (sSeq (sIf (tOf (eBin opEq (eVar 3) (eC (.int 3)))) (sRet (eCall F_law_less_net (aCons (eVar 0) (aCons (eVar 1) (aCons (eVar 2) aNil))))) sNil)
    (sRet (eCall F_law_even_net (aCons (eVar 0) (aCons (eVar 1) (aCons (eVar 2) aNil))))))))))))
def F_law_net : Fn := mkFn 1 4 B_law_net
abbrev N_law_marking : List Str := ["pool", "places", "most", "k"]
def B_law_marking : SS := (sRet (eCallB opTuple (aCons (eLst (eComp (iRange1 (eVar 1)) [3] (.nm 3) tYes' (eCall F_law_draw (aCons (eVar 0) (aCons (eBin opAdd (eVar 2) (eC (.int 1))) aNil))))) aNil)))
def F_law_marking : Fn := mkFn 3 4 B_law_marking
abbrev N_law_within : List Str := ["a", "b", "k"]
def B_law_within : SS := (sRet (eBin opEq (eCallB opLen (aCons (eLst (eComp (iRange1 (eCallB opLen (aCons (eVar 0) aNil))) [2] (.nm 2) (tOf (eBin opGt (eBin opIx (eVar 0) (eVar 2)) (eBin opIx (eVar 1) (eVar 2)))) (eVar 2))) aNil)) (eC (.int 0))))
def F_law_within : Fn := mkFn 2 3 B_law_within
abbrev N_law_done : List Str := ["net", "marking", "deed", "takes", "gives", "k"]
def B_law_done : SS := (sSeq (sAsg (.tp [(.nm 3), (.nm 4)]) (eBin opIx (eBin opIx (eVar 0) (eC (.int 1))) (eVar 2)))
    (sSeq (sIf (tNot' (tOf (eCall F_law_within (aCons (eVar 3) (aCons (eVar 1) aNil))))) (sRet (eC .non)) sNil)
    (sRet (eCallB opTuple (aCons (eLst (eComp (iRange1 (eBin opIx (eVar 0) (eC (.int 0)))) [5] (.nm 5) tYes' (eBin opAdd (eBin opSub (eBin opIx (eVar 1) (eVar 5)) (eBin opIx (eVar 3) (eVar 5))) (eBin opIx (eVar 4) (eVar 5))))) aNil)))))
def F_law_done : Fn := mkFn 3 6 B_law_done
abbrev N_law_behind : List Str := ["net", "marking", "row", "deed"]
def B_law_behind : SS := (sSeq (sFor (iSq (eVar 2)) (.nm 3) (sIf (tOf (eBin opIsnot (eVar 1) (eC .non))) (sSet 1 (eCall F_law_done (aCons (eVar 0) (aCons (eVar 1) (aCons (eVar 3) aNil))))) sNil))
    (sRet (eVar 1)))
def F_law_behind : Fn := mkFn 3 4 B_law_behind
abbrev N_law_taken : List Str := ["net", "step", "side", "total", "deed", "k"]
def B_law_taken : SS := (sSeq (sSet 3 (eBin opMul (eLst (eDisp (aCons (eC (.int 0)) aNil))) (eBin opIx (eVar 0) (eC (.int 0)))))
    (sSeq (sFor (iRange1 (eCallB opLen (aCons (eVar 1) aNil))) (.nm 4) (sSet 3 (eLst (eComp (iRange1 (eBin opIx (eVar 0) (eC (.int 0)))) [5] (.nm 5) tYes' (eBin opAdd (eBin opIx (eVar 3) (eVar 5)) (eBin opMul (eBin opIx (eVar 1) (eVar 4)) (eBin opIx (eBin opIx (eBin opIx (eBin opIx (eVar 0) (eC (.int 1))) (eVar 4)) (eVar 2)) (eVar 5))))))))
    (sRet (eCallB opTuple (aCons (eVar 3) aNil)))))
def F_law_taken : Fn := mkFn 3 6 B_law_taken
abbrev N_law_all_steps : List Str := ["net", "marking", "most", "rows", "deed", "further", "row", "many"]
def B_law_all_steps : SS := (sSeq (sSet 3 (eLst (eDisp (aCons (eTup aNil) aNil))))
    (sSeq (sFor (iRange1 (eCallB opLen (aCons (eBin opIx (eVar 0) (eC (.int 1))) aNil))) (.nm 4) (sSeq (sSet 5 (eLst (eDisp aNil)))
    (sSeq (sFor (iSq (eVar 3)) (.nm 6) (sSet 5 (eBin opAdd (eVar 5) (eLst (eComp (iRange1 (eBin opAdd (eVar 2) (eC (.int 1)))) [7] (.nm 7) (tOf (eCall F_law_within (aCons (eCall F_law_taken (aCons (eVar 0) (aCons (eBin opAdd (eVar 6) (eTup (aCons (eVar 7) aNil))) (aCons (eC (.int 0)) aNil)))) (aCons (eVar 1) aNil)))) (eBin opAdd (eVar 6) (eTup (aCons (eVar 7) aNil))))))))
    (sSet 3 (eVar 5)))))
    (sRet (eLst (eCallF opSorted (aCons (eLst (eComp (iSq (eVar 3)) [6] (.nm 6) (tOf (eBin opGt (eCallB opSum (aCons (eVar 6) aNil)) (eC (.int 0)))) (eVar 6))) aNil))))))
def F_law_all_steps : Fn := mkFn 3 8 B_law_all_steps
abbrev Nlaw : List Str := ["script", "pool", "net", "marking", "m", "most", "steps", "greatest", "drawn", "value", "good", "step", "can", "due", "row", "deed", "left", "mixed", "k", "other"]
def Blaw : SS := (sSeq (sSet 1 (eCall F_law_pool (aCons (eVar 0) aNil)))
    (sSeq (sSet 2 (eCall F_law_net (aCons (eVar 1) aNil)))
    (sSeq (sSet 3 (eCall F_law_marking (aCons (eVar 1) (aCons (eBin opIx (eVar 2) (eC (.int 0))) (aCons (eC (.int 3)) aNil)))))
    (sSeq (sSet 4 (eCallB opLen (aCons (eBin opIx (eVar 2) (eC (.int 1))) aNil)))
    (sSeq (sSet 5 (eBin opAdd (eC (.int 1)) (eCall F_law_draw (aCons (eVar 1) (aCons (eC (.int 2)) aNil)))))
    (sSeq (sSet 6 (eCall F_law_all_steps (aCons (eVar 2) (aCons (eVar 3) (aCons (eVar 5) aNil)))))
    (sSeq (sIf (tNot' (tOf (eCall (F_law_equal 4) (aCons (eCall Fsteps_at (aCons (eVar 2) (aCons (eVar 3) (aCons (eVar 5) aNil)))) (aCons (eVar 6) aNil))))) (sRet (eC (.bl false))) sNil)
    (sSeq (sSet 7 (eLst (eComp (iSq (eVar 6)) [14] (.nm 14) (tOf (eBin opEq (eCallB opLen (aCons (eLst (eComp (iSq (eVar 6)) [19] (.nm 19) (tAnd' (tOf (eBin opNe (eVar 19) (eVar 14))) (tOf (eCall F_law_within (aCons (eVar 14) (aCons (eVar 19) aNil))))) (eVar 19))) aNil)) (eC (.int 0)))) (eVar 14))))
    (sSeq (sIf (tNot' (tOf (eCall (F_law_equal 4) (aCons (eCall Fgreatest_steps (aCons (eVar 2) (aCons (eVar 3) (aCons (eVar 5) aNil)))) (aCons (eVar 7) aNil))))) (sRet (eC (.bl false))) sNil)
    (sSeq (sSet 8 (eCallB opTuple (aCons (eLst (eComp (iRange1 (eVar 4)) [15] (.nm 15) tYes' (eCall F_law_draw (aCons (eVar 1) (aCons (eC (.int 3)) aNil))))) aNil)))
    (sSeq (sFor (iSq (eBin opAdd (eCall F_law_bends (aCons (eVar 1) (aCons (eVar 8) (aCons (eC (.int 10)) aNil)))) (eLst (eDisp (aCons (eBin opMul (eTup (aCons (eC (.int 9)) aNil)) (eVar 4)) (aCons (eBin opMul (eTup (aCons (eC (.int 10)) aNil)) (eVar 4)) (aCons (eBin opMul (eTup (aCons (eC (.int 0)) aNil)) (eVar 4)) aNil))))))) (.nm 9) (sSeq (sSet 10 (eAndV (eCall F_law_ints (aCons (eVar 9) (aCons (eC (.int 0)) (aCons (eC (.int 9)) aNil)))) (eBin opEq (eCallB opLen (aCons (eVar 9) aNil)) (eVar 4))))
    (sIf (tNot' (tOf (eCall F_law_is (aCons (eCall Fis_step (aCons (eVar 2) (aCons (eVar 9) aNil))) (aCons (eAndV (eVar 10) (eBin opGt (eCallB opSum (aCons (eVar 9) aNil)) (eC (.int 0)))) aNil))))) (sRet (eC (.bl false))) sNil)))
    (sSeq (sFor (iSq (eBin opAdd (eBin opAdd (eSl (eVar 6) oNone (oSome (eC (.int 4)))) (eSl (eVar 6) (oSome (eUn opNeg (eC (.int 2)))) oNone)) (eLst (eDisp (aCons (eVar 8) aNil))))) (.nm 11) (sSeq (sSet 12 (eCall F_law_within (aCons (eCall F_law_taken (aCons (eVar 2) (aCons (eVar 11) (aCons (eC (.int 0)) aNil)))) (aCons (eVar 3) aNil))))
    (sSeq (sIf (tNot' (tOf (eCall F_law_is (aCons (eCall Fcan_step (aCons (eVar 2) (aCons (eVar 3) (aCons (eVar 11) aNil)))) (aCons (eVar 12) aNil))))) (sRet (eC (.bl false))) sNil)
    (sSeq (sSet 13 (eC .non))
    (sSeq (sIf (tOf (eVar 12)) (sSet 13 (eCallB opTuple (aCons (eLst (eComp (iRange1 (eBin opIx (eVar 2) (eC (.int 0)))) [18] (.nm 18) tYes' (eBin opAdd (eBin opSub (eBin opIx (eVar 3) (eVar 18)) (eBin opIx (eCall F_law_taken (aCons (eVar 2) (aCons (eVar 11) (aCons (eC (.int 0)) aNil)))) (eVar 18))) (eBin opIx (eCall F_law_taken (aCons (eVar 2) (aCons (eVar 11) (aCons (eC (.int 1)) aNil)))) (eVar 18))))) aNil))) sNil)
    (sSeq (sIf (tNot' (tOf (eCall (F_law_equal 4) (aCons (eCall Fbehind_step (aCons (eVar 2) (aCons (eVar 3) (aCons (eVar 11) aNil)))) (aCons (eVar 13) aNil))))) (sRet (eC (.bl false))) sNil)
    (sSeq (sSet 14 (eTup aNil))
    (sSeq (sFor (iRange1 (eVar 4)) (.nm 15) (sSet 14 (eBin opAdd (eVar 14) (eBin opMul (eTup (aCons (eVar 15) aNil)) (eBin opIx (eVar 11) (eVar 15))))))
    (sSeq (sIf (tNot' (tOf (eCall (F_law_equal 4) (aCons (eCall Frow_of_step (aCons (eVar 11) aNil)) (aCons (eVar 14) aNil))))) (sRet (eC (.bl false))) sNil)
    (sIf (tOf (eVar 12)) (sSeq (sSet 16 (eGlo (eCallF opList (aCons (eVar 14) aNil))))
    (sSeq (sSet 17 (eTup aNil))
    (sSeq (sFor (iRange1 (eCallB opLen (aCons (eVar 14) aNil))) (.nm 18) (sSet 17 (eBin opAdd (eVar 17) (eTup (aCons (ePopG (eVar 16) (eCall F_law_draw (aCons (eVar 1) (aCons (eCallB opLen (aCons (eVar 16) aNil)) aNil)))) aNil)))))
    (sIf (tOr' (tOf (eBin opNe (eCall F_law_behind (aCons (eVar 2) (aCons (eVar 3) (aCons (eVar 17) aNil)))) (eVar 13))) (tOf (eBin opNe (eCall F_law_behind (aCons (eVar 2) (aCons (eVar 3) (aCons (eVar 14) aNil)))) (eVar 13)))) (sRet (eC (.bl false))) sNil)))) sNil))))))))))
    (sRet (eC (.bl true)))))))))))))))
def Flaw : Fn := mkFn 1 20 Blaw
end K24

namespace K24
open PySem Q
open L2 (atI ixN)
/-! ## the pool -/
/-- a pool that has drawn at most B -/
structure Pool (p : PV) (g : G) (B : Nat) : Prop where
  ex : ∃ (rs : List Int) (n : Nat) (k : Int), p = .lst [.lst (rs.map .int), .ref n] ∧ rs ≠ [] ∧ rs.length ≤ 1000 ∧ g[n]? = some (.lst [.int k]) ∧ 0 ≤ k ∧ k ≤ B
theorem Pool.mono {p : PV} {g : G} {B C : Nat} (h : Pool p g B) (l : B ≤ C) : Pool p g C := by
  obtain ⟨rs, n, k, h1, h2, h3, h4, h5, h6⟩ := h.ex
  exact ⟨rs, n, k, h1, h2, h3, h4, h5, by omega⟩
theorem Pool.app {p : PV} {g : G} {B : Nat} (h : Pool p g B) (o : GO) : Pool p (g ++ [o]) B := by
  obtain ⟨rs, n, k, h1, h2, h3, h4, h5, h6⟩ := h.ex
  exact ⟨rs, n, k, h1, h2, h3, by rw [List.getElem?_append_left (List.getElem?_eq_some_iff.mp h4).1]; exact h4, h5, h6⟩
theorem draw_eq {rs : List Int} {n : Nat} {k m : Int} {g : G} (h2 : rs ≠ []) (h3 : rs.length ≤ 1000) (h4 : g[n]? = some (.lst [.int k])) (h5 : 0 ≤ k) (h6 : k ≤ 1000000000) (hm : 0 < m) :
    Sat (F_law_draw [.lst [.lst (rs.map .int), .ref n], .int m] g) fun w g' => ∃ v : Int, w = .int v ∧ 0 ≤ v ∧ v < m ∧ g' = g.set n (.lst [.int (k + 1)]) := by
  have hl : 0 < rs.length := List.length_pos_iff.mpr h2
  have hn : n < g.length := (List.getElem?_eq_some_iff.mp h4).1
  have e1 : atI [PV.lst (rs.map .int), .ref n] 1 = some (.ref n) := rfl
  have e0 : atI [PV.lst (rs.map .int), .ref n] 0 = some (.lst (rs.map .int)) := rfl
  have e2 : atI [PV.int k] 0 = some (.int k) := rfl
  have q1 : 0 ≤ k % (rs.length : Int) := Int.emod_nonneg _ (by omega)
  have q2 : k % (rs.length : Int) < rs.length := Int.emod_lt_of_pos _ (by omega)
  have hi : (k % (rs.length : Int)).toNat < rs.length := by omega
  have e3 : atI (rs.map PV.int) (k % (rs.length : Int)) = some (.int (rs[(k % (rs.length : Int)).toNat]'hi)) := by
    rw [atI_nn q1 (by rw [List.length_map]; exact q2), List.getElem?_map, List.getElem?_eq_getElem hi]; rfl
  have d1 : decide ((rs.length : Int) < 1073741824) = true := decide_eq_true (by omega)
  have d2 : decide (0 < (rs.length : Int)) = true := decide_eq_true (by omega)
  have d3 : decide (0 < m) = true := decide_eq_true hm
  have t0 : 0 ≤ k / (rs.length : Int) := Int.ediv_nonneg h5 (by omega)
  have t1 : k / (rs.length : Int) ≤ k := Int.ediv_le_self _ h5
  have s1 : (Q.small64 (k / (rs.length : Int)) || Q.small64 1013) = true := by rw [small_of (i := 1013) (by omega) (by omega)]; simp
  have s2 : (Q.small64 (k / (rs.length : Int)) || Q.small64 k) = true := by rw [small_of (i := k) (by omega) (by omega)]; simp
  have s3 : (Q.small64 (k / (rs.length : Int) * k) || Q.small64 7) = true := by rw [small_of (i := 7) (by omega) (by omega)]; simp
  have hx : ixN [PV.int k].length 0 = some 0 := rfl
  refine satFn rfl ?_
  show SatS (B_law_draw [.val (.lst [.lst (rs.map .int), .ref n]), .val (.int m), .un, .un] g) _ _
  refine SatS.seq (SatS.set ?_)
  simp only [ev_var, ev_any, ev_c, ev_bin, ev_binF, ev_chain, ev_un, ev_cons, ev_nil, ev_tup, ev_disp, ev_lst, ev_glo, ev_callB, ev_callF, ev_call, ev_if, ev_sl, ev_oN, ev_oS, ev_rev, ev_isa, ev_tOf, ev_tAnd, ev_tOr, ev_tNot, ev_andV, ev_orV, ev_notV, ev_upper, ev_yes, ev_comp, wipeE, notOwn, List.all_cons, List.all_nil, ev_range1, ev_range2, ev_isq, ev_zip2, ev_zip3, ev_enum, optR_some, bind_ok, Sat_ok, Sat_bind, List.getElem?_cons_zero, List.getElem?_cons_succ, List.set_cons_zero, List.set_cons_succ, List.length_cons, List.length_nil, Bool.true_and, Bool.and_true, Bool.and_self, Bool.or_true, Bool.true_or, Bool.false_or, Bool.or_false, Bool.not_true, Bool.not_false, Bool.false_and, Bool.and_false, if_true, if_false, Bool.false_eq_true, reduceIte, reduceCtorEq, opAdd, opSub, opMul, opDiv, opMod, opNeg, opI, opLt, opLe, opGt, opGe, opEq, opNe, opEq_int, opIs, opIsnot, opIsB, isNonP, opIx, opLen, opTuple, opList, opInt, opAbs, opStr, opSum, opMax, opMin, opMM, opAny, opAll, opAA, asSeq, asLst, top, frSeq, kdP, isa, id_eq, Option.map_some, Option.bind_some, e0, e1, e2, h4]
  refine SatS.seq (SatS.setG ?_)
  simp only [ev_var, ev_any, ev_c, ev_bin, ev_binF, ev_chain, ev_un, ev_cons, ev_nil, ev_tup, ev_disp, ev_lst, ev_glo, ev_callB, ev_callF, ev_call, ev_if, ev_sl, ev_oN, ev_oS, ev_rev, ev_isa, ev_tOf, ev_tAnd, ev_tOr, ev_tNot, ev_andV, ev_orV, ev_notV, ev_upper, ev_yes, ev_comp, wipeE, notOwn, List.all_cons, List.all_nil, ev_range1, ev_range2, ev_isq, ev_zip2, ev_zip3, ev_enum, optR_some, bind_ok, Sat_ok, Sat_bind, List.getElem?_cons_zero, List.getElem?_cons_succ, List.set_cons_zero, List.set_cons_succ, List.length_cons, List.length_nil, Bool.true_and, Bool.and_true, Bool.and_self, Bool.or_true, Bool.true_or, Bool.false_or, Bool.or_false, Bool.not_true, Bool.not_false, Bool.false_and, Bool.and_false, if_true, if_false, Bool.false_eq_true, reduceIte, reduceCtorEq, opAdd, opSub, opMul, opDiv, opMod, opNeg, opI, opLt, opLe, opGt, opGe, opEq, opNe, opEq_int, opIs, opIsnot, opIsB, isNonP, opIx, opLen, opTuple, opList, opInt, opAbs, opStr, opSum, opMax, opMin, opMM, opAny, opAll, opAA, asSeq, asLst, top, frSeq, kdP, isa, id_eq, Option.map_some, Option.bind_some, e0, e1, e2]
  refine ⟨n, 0, _, 0, rfl, rfl, h4, rfl, ?_⟩
  refine SatS.seq (SatS.set ?_)
  simp only [ev_var, ev_any, ev_c, ev_bin, ev_binF, ev_chain, ev_un, ev_cons, ev_nil, ev_tup, ev_disp, ev_lst, ev_glo, ev_callB, ev_callF, ev_call, ev_if, ev_sl, ev_oN, ev_oS, ev_rev, ev_isa, ev_tOf, ev_tAnd, ev_tOr, ev_tNot, ev_andV, ev_orV, ev_notV, ev_upper, ev_yes, ev_comp, wipeE, notOwn, List.all_cons, List.all_nil, ev_range1, ev_range2, ev_isq, ev_zip2, ev_zip3, ev_enum, optR_some, bind_ok, Sat_ok, Sat_bind, List.getElem?_cons_zero, List.getElem?_cons_succ, List.set_cons_zero, List.set_cons_succ, List.length_cons, List.length_nil, Bool.true_and, Bool.and_true, Bool.and_self, Bool.or_true, Bool.true_or, Bool.false_or, Bool.or_false, Bool.not_true, Bool.not_false, Bool.false_and, Bool.and_false, if_true, if_false, Bool.false_eq_true, reduceIte, reduceCtorEq, opAdd, opSub, opMul, opDiv, opMod, opNeg, opI, opLt, opLe, opGt, opGe, opEq, opNe, opEq_int, opIs, opIsnot, opIsB, isNonP, opIx, opLen, opTuple, opList, opInt, opAbs, opStr, opSum, opMax, opMin, opMM, opAny, opAll, opAA, asSeq, asLst, top, frSeq, kdP, isa, id_eq, Option.map_some, Option.bind_some, e0, e1, e2, h4, List.length_map, d1, d2]
  refine SatS.ret ?_
  simp only [ev_var, ev_any, ev_c, ev_bin, ev_binF, ev_chain, ev_un, ev_cons, ev_nil, ev_tup, ev_disp, ev_lst, ev_glo, ev_callB, ev_callF, ev_call, ev_if, ev_sl, ev_oN, ev_oS, ev_rev, ev_isa, ev_tOf, ev_tAnd, ev_tOr, ev_tNot, ev_andV, ev_orV, ev_notV, ev_upper, ev_yes, ev_comp, wipeE, notOwn, List.all_cons, List.all_nil, ev_range1, ev_range2, ev_isq, ev_zip2, ev_zip3, ev_enum, optR_some, bind_ok, Sat_ok, Sat_bind, List.getElem?_cons_zero, List.getElem?_cons_succ, List.set_cons_zero, List.set_cons_succ, List.length_cons, List.length_nil, Bool.true_and, Bool.and_true, Bool.and_self, Bool.or_true, Bool.true_or, Bool.false_or, Bool.or_false, Bool.not_true, Bool.not_false, Bool.false_and, Bool.and_false, if_true, if_false, Bool.false_eq_true, reduceIte, reduceCtorEq, opAdd, opSub, opMul, opDiv, opMod, opNeg, opI, opLt, opLe, opGt, opGe, opEq, opNe, opEq_int, opIs, opIsnot, opIsB, isNonP, opIx, opLen, opTuple, opList, opInt, opAbs, opStr, opSum, opMax, opMin, opMM, opAny, opAll, opAA, asSeq, asLst, top, frSeq, kdP, isa, id_eq, Option.map_some, Option.bind_some, e0, e1, e2, e3, h4, List.length_map, d1, d2, d3, s1, s2, s3]
  exact ⟨_, rfl, Int.emod_nonneg _ (by omega), Int.emod_lt_of_pos _ hm, trivial⟩
theorem sat_draw {p : PV} {g : G} {B : Nat} {m : Int} (h : Pool p g B) (hB : B ≤ 1000000000) (hm : 0 < m) : Sat (F_law_draw [p, .int m] g) fun v g' => ∃ i : Int, v = .int i ∧ 0 ≤ i ∧ i < m ∧ Pool p g' (B + 1) := by
  obtain ⟨rs, n, k, rfl, h2, h3, h4, h5, h6⟩ := h.ex
  refine (draw_eq (m := m) h2 h3 h4 h5 (by omega) hm).imp ?_
  rintro w g' ⟨v, rfl, v0, v1, rfl⟩
  refine ⟨v, rfl, v0, v1, rs, n, k + 1, rfl, h2, h3, ?_, by omega, by omega⟩
  rw [List.getElem?_set_self (List.getElem?_eq_some_iff.mp h4).1]

theorem sat_cell (ns : List Int) (k : Nat) (g : G) : Sat (F_law_cell [.scr (ns.map .int), .int k] g) fun w g' => ∃ c : Int, w = .int c ∧ g' = g := by
  refine satFn rfl ?_
  show SatS (B_law_cell [.val (.scr (ns.map .int)), .val (.int k)] g) _ _
  refine SatS.seq (SatS.ite ?_)
  by_cases h : (k : Int) < ns.length
  · have hk : k < ns.length := by omega
    have e3 : atI (ns.map PV.int) (k : Int) = some (.int (ns[k]'hk)) := by
      rw [atI_nn (by omega) (by rw [List.length_map]; exact h), List.getElem?_map, Int.toNat_natCast, List.getElem?_eq_getElem hk]; rfl
    have d : decide ((k : Int) < ns.length) = true := decide_eq_true h
    simp only [ev_var, ev_any, ev_c, ev_bin, ev_binF, ev_chain, ev_un, ev_cons, ev_nil, ev_tup, ev_disp, ev_lst, ev_glo, ev_callB, ev_callF, ev_call, ev_if, ev_sl, ev_oN, ev_oS, ev_rev, ev_isa, ev_tOf, ev_tAnd, ev_tOr, ev_tNot, ev_andV, ev_orV, ev_notV, ev_upper, ev_yes, ev_comp, wipeE, notOwn, List.all_cons, List.all_nil, ev_range1, ev_range2, ev_isq, ev_zip2, ev_zip3, ev_enum, optR_some, bind_ok, Sat_ok, Sat_bind, List.getElem?_cons_zero, List.getElem?_cons_succ, List.set_cons_zero, List.set_cons_succ, List.length_cons, List.length_nil, Bool.true_and, Bool.and_true, Bool.and_self, Bool.or_true, Bool.true_or, Bool.false_or, Bool.or_false, Bool.not_true, Bool.not_false, Bool.false_and, Bool.and_false, if_true, if_false, Bool.false_eq_true, reduceIte, reduceCtorEq, opAdd, opSub, opMul, opDiv, opMod, opNeg, opI, opLt, opLe, opGt, opGe, opEq, opNe, opEq_int, opIs, opIsnot, opIsB, isNonP, opIx, opLen, opTuple, opList, opInt, opAbs, opStr, opSum, opMax, opMin, opMM, opAny, opAll, opAA, asSeq, asLst, top, frSeq, kdP, isa, id_eq, Option.map_some, Option.bind_some, d, List.length_map]
    refine SatS.ret ?_
    simp only [ev_var, ev_any, ev_c, ev_bin, ev_binF, ev_chain, ev_un, ev_cons, ev_nil, ev_tup, ev_disp, ev_lst, ev_glo, ev_callB, ev_callF, ev_call, ev_if, ev_sl, ev_oN, ev_oS, ev_rev, ev_isa, ev_tOf, ev_tAnd, ev_tOr, ev_tNot, ev_andV, ev_orV, ev_notV, ev_upper, ev_yes, ev_comp, wipeE, notOwn, List.all_cons, List.all_nil, ev_range1, ev_range2, ev_isq, ev_zip2, ev_zip3, ev_enum, optR_some, bind_ok, Sat_ok, Sat_bind, List.getElem?_cons_zero, List.getElem?_cons_succ, List.set_cons_zero, List.set_cons_succ, List.length_cons, List.length_nil, Bool.true_and, Bool.and_true, Bool.and_self, Bool.or_true, Bool.true_or, Bool.false_or, Bool.or_false, Bool.not_true, Bool.not_false, Bool.false_and, Bool.and_false, if_true, if_false, Bool.false_eq_true, reduceIte, reduceCtorEq, opAdd, opSub, opMul, opDiv, opMod, opNeg, opI, opLt, opLe, opGt, opGe, opEq, opNe, opEq_int, opIs, opIsnot, opIsB, isNonP, opIx, opLen, opTuple, opList, opInt, opAbs, opStr, opSum, opMax, opMin, opMM, opAny, opAll, opAA, asSeq, asLst, top, frSeq, kdP, isa, id_eq, Option.map_some, Option.bind_some, e3]
    exact ⟨_, rfl, by first | trivial | rfl⟩
  · have d : decide ((k : Int) < ns.length) = false := decide_eq_false h
    simp only [ev_var, ev_any, ev_c, ev_bin, ev_binF, ev_chain, ev_un, ev_cons, ev_nil, ev_tup, ev_disp, ev_lst, ev_glo, ev_callB, ev_callF, ev_call, ev_if, ev_sl, ev_oN, ev_oS, ev_rev, ev_isa, ev_tOf, ev_tAnd, ev_tOr, ev_tNot, ev_andV, ev_orV, ev_notV, ev_upper, ev_yes, ev_comp, wipeE, notOwn, List.all_cons, List.all_nil, ev_range1, ev_range2, ev_isq, ev_zip2, ev_zip3, ev_enum, optR_some, bind_ok, Sat_ok, Sat_bind, List.getElem?_cons_zero, List.getElem?_cons_succ, List.set_cons_zero, List.set_cons_succ, List.length_cons, List.length_nil, Bool.true_and, Bool.and_true, Bool.and_self, Bool.or_true, Bool.true_or, Bool.false_or, Bool.or_false, Bool.not_true, Bool.not_false, Bool.false_and, Bool.and_false, if_true, if_false, Bool.false_eq_true, reduceIte, reduceCtorEq, opAdd, opSub, opMul, opDiv, opMod, opNeg, opI, opLt, opLe, opGt, opGe, opEq, opNe, opEq_int, opIs, opIsnot, opIsB, isNonP, opIx, opLen, opTuple, opList, opInt, opAbs, opStr, opSum, opMax, opMin, opMM, opAny, opAll, opAA, asSeq, asLst, top, frSeq, kdP, isa, id_eq, Option.map_some, Option.bind_some, d, List.length_map]
    refine SatS.nil (SatS.ret ?_)
    simp only [ev_var, ev_any, ev_c, ev_bin, ev_binF, ev_chain, ev_un, ev_cons, ev_nil, ev_tup, ev_disp, ev_lst, ev_glo, ev_callB, ev_callF, ev_call, ev_if, ev_sl, ev_oN, ev_oS, ev_rev, ev_isa, ev_tOf, ev_tAnd, ev_tOr, ev_tNot, ev_andV, ev_orV, ev_notV, ev_upper, ev_yes, ev_comp, wipeE, notOwn, List.all_cons, List.all_nil, ev_range1, ev_range2, ev_isq, ev_zip2, ev_zip3, ev_enum, optR_some, bind_ok, Sat_ok, Sat_bind, List.getElem?_cons_zero, List.getElem?_cons_succ, List.set_cons_zero, List.set_cons_succ, List.length_cons, List.length_nil, Bool.true_and, Bool.and_true, Bool.and_self, Bool.or_true, Bool.true_or, Bool.false_or, Bool.or_false, Bool.not_true, Bool.not_false, Bool.false_and, Bool.and_false, if_true, if_false, Bool.false_eq_true, reduceIte, reduceCtorEq, opAdd, opSub, opMul, opDiv, opMod, opNeg, opI, opLt, opLe, opGt, opGe, opEq, opNe, opEq_int, opIs, opIsnot, opIsB, isNonP, opIx, opLen, opTuple, opList, opInt, opAbs, opStr, opSum, opMax, opMin, opMM, opAny, opAll, opAA, asSeq, asLst, top, frSeq, kdP, isa, id_eq, Option.map_some, Option.bind_some]
    exact ⟨_, rfl, by first | trivial | rfl⟩
theorem pow18 (e : Q.Env) (g : G) : opPow e g (.int 10) (.int 18) = some (.int 1000000000000000000) := by
  have a1 : (10 : Int) ^ (18 : Int).toNat = 1000000000000000000 := by
    have t : (18 : Int).toNat = 18 := by decide +kernel
    have q : (10 : Int) ^ 18 = 1000000000000000000 := by decide +kernel
    rw [t, q]
  have a2 : (decide ((0 : Int) ≤ 18) && decide ((18 : Int) ≤ 1000) && decide ((10 : Int).natAbs < 18446744073709551616)) = true := by decide +kernel
  unfold opPow
  simp only [a2, if_true, a1]
theorem sat_numbers (c : Int) (g : G) : Sat (F_law_numbers [.int c, .int 24] g) fun v g' => g' = g ∧ ∃ l : List Int, l.length = 24 ∧ v = .lst (l.map .int) := by
  refine satFn rfl ?_
  show SatS (B_law_numbers [.val (.int c), .val (.int 24), .un, .un, .un, .un] g) _ _
  refine SatS.seq (SatS.own ?_)
  simp only [ev_var, ev_any, ev_c, ev_bin, ev_binF, ev_chain, ev_un, ev_cons, ev_nil, ev_tup, ev_disp, ev_lst, ev_glo, ev_callB, ev_callF, ev_call, ev_if, ev_sl, ev_oN, ev_oS, ev_rev, ev_isa, ev_tOf, ev_tAnd, ev_tOr, ev_tNot, ev_andV, ev_orV, ev_notV, ev_upper, ev_yes, ev_comp, wipeE, notOwn, List.all_cons, List.all_nil, ev_range1, ev_range2, ev_isq, ev_zip2, ev_zip3, ev_enum, optR_some, bind_ok, Sat_ok, Sat_bind, List.getElem?_cons_zero, List.getElem?_cons_succ, List.set_cons_zero, List.set_cons_succ, List.length_cons, List.length_nil, Bool.true_and, Bool.and_true, Bool.and_self, Bool.or_true, Bool.true_or, Bool.false_or, Bool.or_false, Bool.not_true, Bool.not_false, Bool.false_and, Bool.and_false, if_true, if_false, Bool.false_eq_true, reduceIte, reduceCtorEq, show fits 0 = true from rfl]
  refine SatS.seq (SatS.set ?_)
  simp only [ev_var, ev_any, ev_c, ev_bin, ev_binF, ev_chain, ev_un, ev_cons, ev_nil, ev_tup, ev_disp, ev_lst, ev_glo, ev_callB, ev_callF, ev_call, ev_if, ev_sl, ev_oN, ev_oS, ev_rev, ev_isa, ev_tOf, ev_tAnd, ev_tOr, ev_tNot, ev_andV, ev_orV, ev_notV, ev_upper, ev_yes, ev_comp, wipeE, notOwn, List.all_cons, List.all_nil, ev_range1, ev_range2, ev_isq, ev_zip2, ev_zip3, ev_enum, optR_some, bind_ok, Sat_ok, Sat_bind, List.getElem?_cons_zero, List.getElem?_cons_succ, List.set_cons_zero, List.set_cons_succ, List.length_cons, List.length_nil, Bool.true_and, Bool.and_true, Bool.and_self, Bool.or_true, Bool.true_or, Bool.false_or, Bool.or_false, Bool.not_true, Bool.not_false, Bool.false_and, Bool.and_false, if_true, if_false, Bool.false_eq_true, reduceIte, reduceCtorEq]
  refine SatS.seq (SatS.for_ ?_)
  simp only [ev_var, ev_any, ev_c, ev_bin, ev_binF, ev_chain, ev_un, ev_cons, ev_nil, ev_tup, ev_disp, ev_lst, ev_glo, ev_callB, ev_callF, ev_call, ev_if, ev_sl, ev_oN, ev_oS, ev_rev, ev_isa, ev_tOf, ev_tAnd, ev_tOr, ev_tNot, ev_andV, ev_orV, ev_notV, ev_upper, ev_yes, ev_comp, wipeE, notOwn, List.all_cons, List.all_nil, ev_range1, ev_range2, ev_isq, ev_zip2, ev_zip3, ev_enum, optR_some, bind_ok, Sat_ok, Sat_bind, List.getElem?_cons_zero, List.getElem?_cons_succ, List.set_cons_zero, List.set_cons_succ, List.length_cons, List.length_nil, Bool.true_and, Bool.and_true, Bool.and_self, Bool.or_true, Bool.true_or, Bool.false_or, Bool.or_false, Bool.not_true, Bool.not_false, Bool.false_and, Bool.and_false, if_true, if_false, Bool.false_eq_true, reduceIte, reduceCtorEq, decide_eq_true (show (-4611686018427387904 : Int) ≤ 24 by omega), decide_eq_true (show (24 : Int) ≤ 16777216 by omega)]
  refine sat_for (fun k e g' => g' = g ∧ ∃ (l : List Int) (left : Int) (s4 s5 : SV), l.length = k ∧ e = [.val (.int c), .val (.int 24), .own (.lst (l.map .int)), .val (.int left), s4, s5]) ?_ ?_ ⟨rfl, [], c, .un, .un, rfl, rfl⟩
  · rintro k x e g' hx ⟨rfl, l, left, s4, s5, hl, rfl⟩
    have hk : k < (rangeL 0 24).length := (List.getElem?_eq_some_iff.mp hx).1
    rw [rangeL_len] at hk
    have hk : k < 24 := hk
    rw [rangeL_get 0 24 k (by exact hk)] at hx
    cases hx
    refine ⟨_, rfl, ?_⟩
    show SatS (sIf _ _ _ [.val (.int c), .val (.int 24), .own (.lst (l.map .int)), .val (.int left), .val (.int (0 + (k : Int))), s5] g') _ _
    have hf' : fits ((l.map PV.int).length + 1) = true := by rw [List.length_map]; exact fits1000 (by omega)
    have sm : ∀ x m : Int, -1000000000000 < m → m < 1000000000000 → (Q.small64 x || Q.small64 m) = true := fun x m h h' => by rw [small_of (i := m) h h']; simp
    have d1 : ∀ x : Int, (Q.small64 x || Q.small64 69621) = true := fun x => sm x _ (by omega) (by omega)
    have d2 : ∀ x : Int, (Q.small64 x || Q.small64 48271) = true := fun x => sm x _ (by omega) (by omega)
    have d3 : ∀ x : Int, (Q.small64 x || Q.small64 16807) = true := fun x => sm x _ (by omega) (by omega)
    have d4 : ∀ x : Int, (Q.small64 x || Q.small64 7919) = true := fun x => sm x _ (by omega) (by omega)
    have d5 : ∀ x : Int, (Q.small64 17 || Q.small64 x) = true := fun x => by rw [small_of (i := 17) (by omega) (by omega)]; simp
    have d6 : ∀ x m : Int, 0 < m → m < 1000000000000 → (Q.small64 (x % m) || Q.small64 (x % m)) = true := fun x m h1 h2 => by
      have a := Int.emod_nonneg x (show m ≠ 0 by omega)
      have b := Int.emod_lt_of_pos x h1
      rw [small_of (i := x % m) (by omega) (by omega)]; rfl
    have p1 : decide ((0 : Int) < 4099) = true := decide_eq_true (by omega)
    have p2 : decide ((4099 : Int) < 1073741824) = true := decide_eq_true (by omega)
    have p3 : decide ((0 : Int) < 2147483647) = true := decide_eq_true (by omega)
    have p4 : decide ((0 : Int) < 2147483629) = true := decide_eq_true (by omega)
    have p5 : decide ((0 : Int) < 2147483587) = true := decide_eq_true (by omega)
    have p6 : decide ((0 : Int) < 5) = true := decide_eq_true (by omega)
    have p7 : decide ((5 : Int) < 1073741824) = true := decide_eq_true (by omega)
    have m1 := fun x => d6 x 2147483647 (by omega) (by omega)
    have m2 := fun x => d6 x 2147483629 (by omega) (by omega)
    by_cases h1 : (1000000000000000000 : Int) ≤ c
    · have b1 : decide ((1000000000000000000 : Int) ≤ c) = true := decide_eq_true h1
      by_cases h2 : (0 : Int) < left
      · have b2 : decide ((0 : Int) < left) = true := decide_eq_true h2
        refine SatS.ite ?_
        simp only [ev_var, ev_any, ev_c, ev_bin, ev_binF, ev_chain, ev_un, ev_cons, ev_nil, ev_tup, ev_disp, ev_lst, ev_glo, ev_callB, ev_callF, ev_call, ev_if, ev_sl, ev_oN, ev_oS, ev_rev, ev_isa, ev_tOf, ev_tAnd, ev_tOr, ev_tNot, ev_andV, ev_orV, ev_notV, ev_upper, ev_yes, ev_comp, wipeE, notOwn, List.all_cons, List.all_nil, ev_range1, ev_range2, ev_isq, ev_zip2, ev_zip3, ev_enum, optR_some, bind_ok, Sat_ok, Sat_bind, List.getElem?_cons_zero, List.getElem?_cons_succ, List.set_cons_zero, List.set_cons_succ, List.length_cons, List.length_nil, Bool.true_and, Bool.and_true, Bool.and_self, Bool.or_true, Bool.true_or, Bool.false_or, Bool.or_false, Bool.not_true, Bool.not_false, Bool.false_and, Bool.and_false, if_true, if_false, Bool.false_eq_true, reduceIte, reduceCtorEq, opAdd, opSub, opMul, opDiv, opMod, opNeg, opI, opLt, opLe, opGt, opGe, opEq, opNe, opEq_int, opIs, opIsnot, opIsB, isNonP, opIx, opLen, opTuple, opList, opInt, opAbs, opStr, opSum, opMax, opMin, opMM, opAny, opAll, opAA, asSeq, asLst, top, frSeq, kdP, isa, id_eq, Option.map_some, Option.bind_some, pow18, b1, b2]
        refine SatS.seq (SatS.append rfl ?_)
        simp only [ev_var, ev_any, ev_c, ev_bin, ev_binF, ev_chain, ev_un, ev_cons, ev_nil, ev_tup, ev_disp, ev_lst, ev_glo, ev_callB, ev_callF, ev_call, ev_if, ev_sl, ev_oN, ev_oS, ev_rev, ev_isa, ev_tOf, ev_tAnd, ev_tOr, ev_tNot, ev_andV, ev_orV, ev_notV, ev_upper, ev_yes, ev_comp, wipeE, notOwn, List.all_cons, List.all_nil, ev_range1, ev_range2, ev_isq, ev_zip2, ev_zip3, ev_enum, optR_some, bind_ok, Sat_ok, Sat_bind, List.getElem?_cons_zero, List.getElem?_cons_succ, List.set_cons_zero, List.set_cons_succ, List.length_cons, List.length_nil, Bool.true_and, Bool.and_true, Bool.and_self, Bool.or_true, Bool.true_or, Bool.false_or, Bool.or_false, Bool.not_true, Bool.not_false, Bool.false_and, Bool.and_false, if_true, if_false, Bool.false_eq_true, reduceIte, reduceCtorEq, opAdd, opSub, opMul, opDiv, opMod, opNeg, opI, opLt, opLe, opGt, opGe, opEq, opNe, opEq_int, opIs, opIsnot, opIsB, isNonP, opIx, opLen, opTuple, opList, opInt, opAbs, opStr, opSum, opMax, opMin, opMM, opAny, opAll, opAA, asSeq, asLst, top, frSeq, kdP, isa, id_eq, Option.map_some, Option.bind_some, p1, hf']
        refine ⟨trivial, SatS.set ?_⟩
        simp only [ev_var, ev_any, ev_c, ev_bin, ev_binF, ev_chain, ev_un, ev_cons, ev_nil, ev_tup, ev_disp, ev_lst, ev_glo, ev_callB, ev_callF, ev_call, ev_if, ev_sl, ev_oN, ev_oS, ev_rev, ev_isa, ev_tOf, ev_tAnd, ev_tOr, ev_tNot, ev_andV, ev_orV, ev_notV, ev_upper, ev_yes, ev_comp, wipeE, notOwn, List.all_cons, List.all_nil, ev_range1, ev_range2, ev_isq, ev_zip2, ev_zip3, ev_enum, optR_some, bind_ok, Sat_ok, Sat_bind, List.getElem?_cons_zero, List.getElem?_cons_succ, List.set_cons_zero, List.set_cons_succ, List.length_cons, List.length_nil, Bool.true_and, Bool.and_true, Bool.and_self, Bool.or_true, Bool.true_or, Bool.false_or, Bool.or_false, Bool.not_true, Bool.not_false, Bool.false_and, Bool.and_false, if_true, if_false, Bool.false_eq_true, reduceIte, reduceCtorEq, opAdd, opSub, opMul, opDiv, opMod, opNeg, opI, opLt, opLe, opGt, opGe, opEq, opNe, opEq_int, opIs, opIsnot, opIsB, isNonP, opIx, opLen, opTuple, opList, opInt, opAbs, opStr, opSum, opMax, opMin, opMM, opAny, opAll, opAA, asSeq, asLst, top, frSeq, kdP, isa, id_eq, Option.map_some, Option.bind_some, p1, p2]
        exact ⟨trivial, l ++ [left % 4099], _, _, _, by simp [hl], by rw [List.map_append]; rfl⟩
      · have b2 : decide ((0 : Int) < left) = false := decide_eq_false h2
        refine SatS.ite ?_
        simp only [ev_var, ev_any, ev_c, ev_bin, ev_binF, ev_chain, ev_un, ev_cons, ev_nil, ev_tup, ev_disp, ev_lst, ev_glo, ev_callB, ev_callF, ev_call, ev_if, ev_sl, ev_oN, ev_oS, ev_rev, ev_isa, ev_tOf, ev_tAnd, ev_tOr, ev_tNot, ev_andV, ev_orV, ev_notV, ev_upper, ev_yes, ev_comp, wipeE, notOwn, List.all_cons, List.all_nil, ev_range1, ev_range2, ev_isq, ev_zip2, ev_zip3, ev_enum, optR_some, bind_ok, Sat_ok, Sat_bind, List.getElem?_cons_zero, List.getElem?_cons_succ, List.set_cons_zero, List.set_cons_succ, List.length_cons, List.length_nil, Bool.true_and, Bool.and_true, Bool.and_self, Bool.or_true, Bool.true_or, Bool.false_or, Bool.or_false, Bool.not_true, Bool.not_false, Bool.false_and, Bool.and_false, if_true, if_false, Bool.false_eq_true, reduceIte, reduceCtorEq, opAdd, opSub, opMul, opDiv, opMod, opNeg, opI, opLt, opLe, opGt, opGe, opEq, opNe, opEq_int, opIs, opIsnot, opIsB, isNonP, opIx, opLen, opTuple, opList, opInt, opAbs, opStr, opSum, opMax, opMin, opMM, opAny, opAll, opAA, asSeq, asLst, top, frSeq, kdP, isa, id_eq, Option.map_some, Option.bind_some, pow18, b1, b2]
        refine SatS.seq (SatS.set ?_)
        simp only [ev_var, ev_any, ev_c, ev_bin, ev_binF, ev_chain, ev_un, ev_cons, ev_nil, ev_tup, ev_disp, ev_lst, ev_glo, ev_callB, ev_callF, ev_call, ev_if, ev_sl, ev_oN, ev_oS, ev_rev, ev_isa, ev_tOf, ev_tAnd, ev_tOr, ev_tNot, ev_andV, ev_orV, ev_notV, ev_upper, ev_yes, ev_comp, wipeE, notOwn, List.all_cons, List.all_nil, ev_range1, ev_range2, ev_isq, ev_zip2, ev_zip3, ev_enum, optR_some, bind_ok, Sat_ok, Sat_bind, List.getElem?_cons_zero, List.getElem?_cons_succ, List.set_cons_zero, List.set_cons_succ, List.length_cons, List.length_nil, Bool.true_and, Bool.and_true, Bool.and_self, Bool.or_true, Bool.true_or, Bool.false_or, Bool.or_false, Bool.not_true, Bool.not_false, Bool.false_and, Bool.and_false, if_true, if_false, Bool.false_eq_true, reduceIte, reduceCtorEq, opAdd, opSub, opMul, opDiv, opMod, opNeg, opI, opLt, opLe, opGt, opGe, opEq, opNe, opEq_int, opIs, opIsnot, opIsB, isNonP, opIx, opLen, opTuple, opList, opInt, opAbs, opStr, opSum, opMax, opMin, opMM, opAny, opAll, opAA, asSeq, asLst, top, frSeq, kdP, isa, id_eq, Option.map_some, Option.bind_some, d1, d2, p3]
        refine SatS.seq (SatS.set ?_)
        simp only [ev_var, ev_any, ev_c, ev_bin, ev_binF, ev_chain, ev_un, ev_cons, ev_nil, ev_tup, ev_disp, ev_lst, ev_glo, ev_callB, ev_callF, ev_call, ev_if, ev_sl, ev_oN, ev_oS, ev_rev, ev_isa, ev_tOf, ev_tAnd, ev_tOr, ev_tNot, ev_andV, ev_orV, ev_notV, ev_upper, ev_yes, ev_comp, wipeE, notOwn, List.all_cons, List.all_nil, ev_range1, ev_range2, ev_isq, ev_zip2, ev_zip3, ev_enum, optR_some, bind_ok, Sat_ok, Sat_bind, List.getElem?_cons_zero, List.getElem?_cons_succ, List.set_cons_zero, List.set_cons_succ, List.length_cons, List.length_nil, Bool.true_and, Bool.and_true, Bool.and_self, Bool.or_true, Bool.true_or, Bool.false_or, Bool.or_false, Bool.not_true, Bool.not_false, Bool.false_and, Bool.and_false, if_true, if_false, Bool.false_eq_true, reduceIte, reduceCtorEq, opAdd, opSub, opMul, opDiv, opMod, opNeg, opI, opLt, opLe, opGt, opGe, opEq, opNe, opEq_int, opIs, opIsnot, opIsB, isNonP, opIx, opLen, opTuple, opList, opInt, opAbs, opStr, opSum, opMax, opMin, opMM, opAny, opAll, opAA, asSeq, asLst, top, frSeq, kdP, isa, id_eq, Option.map_some, Option.bind_some, d3, d4, m1, p4]
        refine SatS.seq (SatS.set ?_)
        simp only [ev_var, ev_any, ev_c, ev_bin, ev_binF, ev_chain, ev_un, ev_cons, ev_nil, ev_tup, ev_disp, ev_lst, ev_glo, ev_callB, ev_callF, ev_call, ev_if, ev_sl, ev_oN, ev_oS, ev_rev, ev_isa, ev_tOf, ev_tAnd, ev_tOr, ev_tNot, ev_andV, ev_orV, ev_notV, ev_upper, ev_yes, ev_comp, wipeE, notOwn, List.all_cons, List.all_nil, ev_range1, ev_range2, ev_isq, ev_zip2, ev_zip3, ev_enum, optR_some, bind_ok, Sat_ok, Sat_bind, List.getElem?_cons_zero, List.getElem?_cons_succ, List.set_cons_zero, List.set_cons_succ, List.length_cons, List.length_nil, Bool.true_and, Bool.and_true, Bool.and_self, Bool.or_true, Bool.true_or, Bool.false_or, Bool.or_false, Bool.not_true, Bool.not_false, Bool.false_and, Bool.and_false, if_true, if_false, Bool.false_eq_true, reduceIte, reduceCtorEq, opAdd, opSub, opMul, opDiv, opMod, opNeg, opI, opLt, opLe, opGt, opGe, opEq, opNe, opEq_int, opIs, opIsnot, opIsB, isNonP, opIx, opLen, opTuple, opList, opInt, opAbs, opStr, opSum, opMax, opMin, opMM, opAny, opAll, opAA, asSeq, asLst, top, frSeq, kdP, isa, id_eq, Option.map_some, Option.bind_some, d5, m2, p5]
        refine SatS.append rfl ?_
        simp only [ev_var, ev_any, ev_c, ev_bin, ev_binF, ev_chain, ev_un, ev_cons, ev_nil, ev_tup, ev_disp, ev_lst, ev_glo, ev_callB, ev_callF, ev_call, ev_if, ev_sl, ev_oN, ev_oS, ev_rev, ev_isa, ev_tOf, ev_tAnd, ev_tOr, ev_tNot, ev_andV, ev_orV, ev_notV, ev_upper, ev_yes, ev_comp, wipeE, notOwn, List.all_cons, List.all_nil, ev_range1, ev_range2, ev_isq, ev_zip2, ev_zip3, ev_enum, optR_some, bind_ok, Sat_ok, Sat_bind, List.getElem?_cons_zero, List.getElem?_cons_succ, List.set_cons_zero, List.set_cons_succ, List.length_cons, List.length_nil, Bool.true_and, Bool.and_true, Bool.and_self, Bool.or_true, Bool.true_or, Bool.false_or, Bool.or_false, Bool.not_true, Bool.not_false, Bool.false_and, Bool.and_false, if_true, if_false, Bool.false_eq_true, reduceIte, reduceCtorEq, opAdd, opSub, opMul, opDiv, opMod, opNeg, opI, opLt, opLe, opGt, opGe, opEq, opNe, opEq_int, opIs, opIsnot, opIsB, isNonP, opIx, opLen, opTuple, opList, opInt, opAbs, opStr, opSum, opMax, opMin, opMM, opAny, opAll, opAA, asSeq, asLst, top, frSeq, kdP, isa, id_eq, Option.map_some, Option.bind_some, p1, p6, p7, hf']
        exact ⟨trivial, trivial, l ++ [_], _, _, _, by simp [hl], by rw [List.map_append]; rfl⟩
    · have b1 : decide ((1000000000000000000 : Int) ≤ c) = false := decide_eq_false h1
      refine SatS.ite ?_
      simp only [ev_var, ev_any, ev_c, ev_bin, ev_binF, ev_chain, ev_un, ev_cons, ev_nil, ev_tup, ev_disp, ev_lst, ev_glo, ev_callB, ev_callF, ev_call, ev_if, ev_sl, ev_oN, ev_oS, ev_rev, ev_isa, ev_tOf, ev_tAnd, ev_tOr, ev_tNot, ev_andV, ev_orV, ev_notV, ev_upper, ev_yes, ev_comp, wipeE, notOwn, List.all_cons, List.all_nil, ev_range1, ev_range2, ev_isq, ev_zip2, ev_zip3, ev_enum, optR_some, bind_ok, Sat_ok, Sat_bind, List.getElem?_cons_zero, List.getElem?_cons_succ, List.set_cons_zero, List.set_cons_succ, List.length_cons, List.length_nil, Bool.true_and, Bool.and_true, Bool.and_self, Bool.or_true, Bool.true_or, Bool.false_or, Bool.or_false, Bool.not_true, Bool.not_false, Bool.false_and, Bool.and_false, if_true, if_false, Bool.false_eq_true, reduceIte, reduceCtorEq, opAdd, opSub, opMul, opDiv, opMod, opNeg, opI, opLt, opLe, opGt, opGe, opEq, opNe, opEq_int, opIs, opIsnot, opIsB, isNonP, opIx, opLen, opTuple, opList, opInt, opAbs, opStr, opSum, opMax, opMin, opMM, opAny, opAll, opAA, asSeq, asLst, top, frSeq, kdP, isa, id_eq, Option.map_some, Option.bind_some, pow18, b1]
      refine SatS.seq (SatS.set ?_)
      simp only [ev_var, ev_any, ev_c, ev_bin, ev_binF, ev_chain, ev_un, ev_cons, ev_nil, ev_tup, ev_disp, ev_lst, ev_glo, ev_callB, ev_callF, ev_call, ev_if, ev_sl, ev_oN, ev_oS, ev_rev, ev_isa, ev_tOf, ev_tAnd, ev_tOr, ev_tNot, ev_andV, ev_orV, ev_notV, ev_upper, ev_yes, ev_comp, wipeE, notOwn, List.all_cons, List.all_nil, ev_range1, ev_range2, ev_isq, ev_zip2, ev_zip3, ev_enum, optR_some, bind_ok, Sat_ok, Sat_bind, List.getElem?_cons_zero, List.getElem?_cons_succ, List.set_cons_zero, List.set_cons_succ, List.length_cons, List.length_nil, Bool.true_and, Bool.and_true, Bool.and_self, Bool.or_true, Bool.true_or, Bool.false_or, Bool.or_false, Bool.not_true, Bool.not_false, Bool.false_and, Bool.and_false, if_true, if_false, Bool.false_eq_true, reduceIte, reduceCtorEq, opAdd, opSub, opMul, opDiv, opMod, opNeg, opI, opLt, opLe, opGt, opGe, opEq, opNe, opEq_int, opIs, opIsnot, opIsB, isNonP, opIx, opLen, opTuple, opList, opInt, opAbs, opStr, opSum, opMax, opMin, opMM, opAny, opAll, opAA, asSeq, asLst, top, frSeq, kdP, isa, id_eq, Option.map_some, Option.bind_some, d1, d2, p3]
      refine SatS.seq (SatS.set ?_)
      simp only [ev_var, ev_any, ev_c, ev_bin, ev_binF, ev_chain, ev_un, ev_cons, ev_nil, ev_tup, ev_disp, ev_lst, ev_glo, ev_callB, ev_callF, ev_call, ev_if, ev_sl, ev_oN, ev_oS, ev_rev, ev_isa, ev_tOf, ev_tAnd, ev_tOr, ev_tNot, ev_andV, ev_orV, ev_notV, ev_upper, ev_yes, ev_comp, wipeE, notOwn, List.all_cons, List.all_nil, ev_range1, ev_range2, ev_isq, ev_zip2, ev_zip3, ev_enum, optR_some, bind_ok, Sat_ok, Sat_bind, List.getElem?_cons_zero, List.getElem?_cons_succ, List.set_cons_zero, List.set_cons_succ, List.length_cons, List.length_nil, Bool.true_and, Bool.and_true, Bool.and_self, Bool.or_true, Bool.true_or, Bool.false_or, Bool.or_false, Bool.not_true, Bool.not_false, Bool.false_and, Bool.and_false, if_true, if_false, Bool.false_eq_true, reduceIte, reduceCtorEq, opAdd, opSub, opMul, opDiv, opMod, opNeg, opI, opLt, opLe, opGt, opGe, opEq, opNe, opEq_int, opIs, opIsnot, opIsB, isNonP, opIx, opLen, opTuple, opList, opInt, opAbs, opStr, opSum, opMax, opMin, opMM, opAny, opAll, opAA, asSeq, asLst, top, frSeq, kdP, isa, id_eq, Option.map_some, Option.bind_some, d3, d4, m1, p4]
      refine SatS.seq (SatS.set ?_)
      simp only [ev_var, ev_any, ev_c, ev_bin, ev_binF, ev_chain, ev_un, ev_cons, ev_nil, ev_tup, ev_disp, ev_lst, ev_glo, ev_callB, ev_callF, ev_call, ev_if, ev_sl, ev_oN, ev_oS, ev_rev, ev_isa, ev_tOf, ev_tAnd, ev_tOr, ev_tNot, ev_andV, ev_orV, ev_notV, ev_upper, ev_yes, ev_comp, wipeE, notOwn, List.all_cons, List.all_nil, ev_range1, ev_range2, ev_isq, ev_zip2, ev_zip3, ev_enum, optR_some, bind_ok, Sat_ok, Sat_bind, List.getElem?_cons_zero, List.getElem?_cons_succ, List.set_cons_zero, List.set_cons_succ, List.length_cons, List.length_nil, Bool.true_and, Bool.and_true, Bool.and_self, Bool.or_true, Bool.true_or, Bool.false_or, Bool.or_false, Bool.not_true, Bool.not_false, Bool.false_and, Bool.and_false, if_true, if_false, Bool.false_eq_true, reduceIte, reduceCtorEq, opAdd, opSub, opMul, opDiv, opMod, opNeg, opI, opLt, opLe, opGt, opGe, opEq, opNe, opEq_int, opIs, opIsnot, opIsB, isNonP, opIx, opLen, opTuple, opList, opInt, opAbs, opStr, opSum, opMax, opMin, opMM, opAny, opAll, opAA, asSeq, asLst, top, frSeq, kdP, isa, id_eq, Option.map_some, Option.bind_some, d5, m2, p5]
      refine SatS.append rfl ?_
      simp only [ev_var, ev_any, ev_c, ev_bin, ev_binF, ev_chain, ev_un, ev_cons, ev_nil, ev_tup, ev_disp, ev_lst, ev_glo, ev_callB, ev_callF, ev_call, ev_if, ev_sl, ev_oN, ev_oS, ev_rev, ev_isa, ev_tOf, ev_tAnd, ev_tOr, ev_tNot, ev_andV, ev_orV, ev_notV, ev_upper, ev_yes, ev_comp, wipeE, notOwn, List.all_cons, List.all_nil, ev_range1, ev_range2, ev_isq, ev_zip2, ev_zip3, ev_enum, optR_some, bind_ok, Sat_ok, Sat_bind, List.getElem?_cons_zero, List.getElem?_cons_succ, List.set_cons_zero, List.set_cons_succ, List.length_cons, List.length_nil, Bool.true_and, Bool.and_true, Bool.and_self, Bool.or_true, Bool.true_or, Bool.false_or, Bool.or_false, Bool.not_true, Bool.not_false, Bool.false_and, Bool.and_false, if_true, if_false, Bool.false_eq_true, reduceIte, reduceCtorEq, opAdd, opSub, opMul, opDiv, opMod, opNeg, opI, opLt, opLe, opGt, opGe, opEq, opNe, opEq_int, opIs, opIsnot, opIsB, isNonP, opIx, opLen, opTuple, opList, opInt, opAbs, opStr, opSum, opMax, opMin, opMM, opAny, opAll, opAA, asSeq, asLst, top, frSeq, kdP, isa, id_eq, Option.map_some, Option.bind_some, p1, p6, p7, hf']
      exact ⟨trivial, trivial, l ++ [_], _, _, _, by simp [hl], by rw [List.map_append]; rfl⟩
  · rintro e g' ⟨rfl, l, left, s4, s5, hl, rfl⟩
    refine SatS.fzm (xs := l.map .int) rfl (SatS.ret ?_)
    simp only [ev_var, ev_any, ev_c, ev_bin, ev_binF, ev_chain, ev_un, ev_cons, ev_nil, ev_tup, ev_disp, ev_lst, ev_glo, ev_callB, ev_callF, ev_call, ev_if, ev_sl, ev_oN, ev_oS, ev_rev, ev_isa, ev_tOf, ev_tAnd, ev_tOr, ev_tNot, ev_andV, ev_orV, ev_notV, ev_upper, ev_yes, ev_comp, wipeE, notOwn, List.all_cons, List.all_nil, ev_range1, ev_range2, ev_isq, ev_zip2, ev_zip3, ev_enum, optR_some, bind_ok, Sat_ok, Sat_bind, List.getElem?_cons_zero, List.getElem?_cons_succ, List.set_cons_zero, List.set_cons_succ, List.length_cons, List.length_nil, Bool.true_and, Bool.and_true, Bool.and_self, Bool.or_true, Bool.true_or, Bool.false_or, Bool.or_false, Bool.not_true, Bool.not_false, Bool.false_and, Bool.and_false, if_true, if_false, Bool.false_eq_true, reduceIte, reduceCtorEq]
    exact ⟨trivial, l, hl, rfl⟩

theorem sat_pool (ns : List Int) (hn : ns.length ≤ 63) : Sat (F_law_pool [.scr (ns.map .int)] []) fun p g => Pool p g 0 := by
  refine satFn rfl ?_
  show SatS (B_law_pool [.val (.scr (ns.map .int)), .un, .un] []) _ _
  refine SatS.seq (SatS.set ?_)
  simp only [ev_var, ev_any, ev_c, ev_bin, ev_binF, ev_chain, ev_un, ev_cons, ev_nil, ev_tup, ev_disp, ev_lst, ev_glo, ev_callB, ev_callF, ev_call, ev_if, ev_sl, ev_oN, ev_oS, ev_rev, ev_isa, ev_tOf, ev_tAnd, ev_tOr, ev_tNot, ev_andV, ev_orV, ev_notV, ev_upper, ev_yes, ev_comp, wipeE, notOwn, List.all_cons, List.all_nil, ev_range1, ev_range2, ev_isq, ev_zip2, ev_zip3, ev_enum, optR_some, bind_ok, Sat_ok, Sat_bind, List.getElem?_cons_zero, List.getElem?_cons_succ, List.set_cons_zero, List.set_cons_succ, List.length_cons, List.length_nil, Bool.true_and, Bool.and_true, Bool.and_self, Bool.or_true, Bool.true_or, Bool.false_or, Bool.or_false, Bool.not_true, Bool.not_false, Bool.false_and, Bool.and_false, if_true, if_false, Bool.false_eq_true, reduceIte, reduceCtorEq, fits1000 (show 0 ≤ 1000000 by omega)]
  refine SatS.seq (SatS.for_ ?_)
  have hm : (1 : Int) ≤ min 6 (max 1 ((ns.map PV.int).length : Int)) := by omega
  have hm6 : min 6 (max 1 ((ns.map PV.int).length : Int)) ≤ (6 : Int) := by omega
  generalize hM : min 6 (max 1 ((ns.map PV.int).length : Int)) = M at hm hm6
  simp only [ev_var, ev_any, ev_c, ev_bin, ev_binF, ev_chain, ev_un, ev_cons, ev_nil, ev_tup, ev_disp, ev_lst, ev_glo, ev_callB, ev_callF, ev_call, ev_if, ev_sl, ev_oN, ev_oS, ev_rev, ev_isa, ev_tOf, ev_tAnd, ev_tOr, ev_tNot, ev_andV, ev_orV, ev_notV, ev_upper, ev_yes, ev_comp, wipeE, notOwn, List.all_cons, List.all_nil, ev_range1, ev_range2, ev_isq, ev_zip2, ev_zip3, ev_enum, optR_some, bind_ok, Sat_ok, Sat_bind, List.getElem?_cons_zero, List.getElem?_cons_succ, List.set_cons_zero, List.set_cons_succ, List.length_cons, List.length_nil, Bool.true_and, Bool.and_true, Bool.and_self, Bool.or_true, Bool.true_or, Bool.false_or, Bool.or_false, Bool.not_true, Bool.not_false, Bool.false_and, Bool.and_false, if_true, if_false, Bool.false_eq_true, reduceIte, reduceCtorEq, opAdd, opSub, opMul, opDiv, opMod, opNeg, opI, opLt, opLe, opGt, opGe, opEq, opNe, opEq_int, opIs, opIsnot, opIsB, isNonP, opIx, opLen, opTuple, opList, opInt, opAbs, opStr, opSum, opMax, opMin, opMM, opAny, opAll, opAA, asSeq, asLst, top, frSeq, kdP, isa, id_eq, Option.map_some, Option.bind_some, hM, rg1 (show 0 ≤ M by omega), rg2 (show M ≤ 1000000 by omega)]
  refine sat_for (fun k e g => g = [] ∧ ∃ (l : List Int) (s2 : SV), l.length = 24 * k ∧ e = [.val (.scr (ns.map .int)), .val (.lst (l.map .int)), s2]) ?_ ?_ ⟨rfl, [], .un, rfl, rfl⟩
  · rintro k x e g hx ⟨rfl, l, s2, hl, rfl⟩
    obtain ⟨rfl, hk, _⟩ := range_at hx
    refine ⟨_, rfl, SatS.set ?_⟩
    simp only [ev_var, ev_any, ev_c, ev_bin, ev_binF, ev_chain, ev_un, ev_cons, ev_nil, ev_tup, ev_disp, ev_lst, ev_glo, ev_callB, ev_callF, ev_call, ev_if, ev_sl, ev_oN, ev_oS, ev_rev, ev_isa, ev_tOf, ev_tAnd, ev_tOr, ev_tNot, ev_andV, ev_orV, ev_notV, ev_upper, ev_yes, ev_comp, wipeE, notOwn, List.all_cons, List.all_nil, ev_range1, ev_range2, ev_isq, ev_zip2, ev_zip3, ev_enum, optR_some, bind_ok, Sat_ok, Sat_bind, List.getElem?_cons_zero, List.getElem?_cons_succ, List.set_cons_zero, List.set_cons_succ, List.length_cons, List.length_nil, Bool.true_and, Bool.and_true, Bool.and_self, Bool.or_true, Bool.true_or, Bool.false_or, Bool.or_false, Bool.not_true, Bool.not_false, Bool.false_and, Bool.and_false, if_true, if_false, Bool.false_eq_true, reduceIte, reduceCtorEq]
    refine (sat_cell ns k []).imp ?_
    rintro _ _ ⟨c, rfl, rfl⟩
    have s1 : (Q.small64 11 || Q.small64 (k : Int)) = true := by rw [small_of (i := 11) (by omega) (by omega)]; rfl
    simp only [ev_var, ev_any, ev_c, ev_bin, ev_binF, ev_chain, ev_un, ev_cons, ev_nil, ev_tup, ev_disp, ev_lst, ev_glo, ev_callB, ev_callF, ev_call, ev_if, ev_sl, ev_oN, ev_oS, ev_rev, ev_isa, ev_tOf, ev_tAnd, ev_tOr, ev_tNot, ev_andV, ev_orV, ev_notV, ev_upper, ev_yes, ev_comp, wipeE, notOwn, List.all_cons, List.all_nil, ev_range1, ev_range2, ev_isq, ev_zip2, ev_zip3, ev_enum, optR_some, bind_ok, Sat_ok, Sat_bind, List.getElem?_cons_zero, List.getElem?_cons_succ, List.set_cons_zero, List.set_cons_succ, List.length_cons, List.length_nil, Bool.true_and, Bool.and_true, Bool.and_self, Bool.or_true, Bool.true_or, Bool.false_or, Bool.or_false, Bool.not_true, Bool.not_false, Bool.false_and, Bool.and_false, if_true, if_false, Bool.false_eq_true, reduceIte, reduceCtorEq, opAdd, opSub, opMul, opDiv, opMod, opNeg, opI, opLt, opLe, opGt, opGe, opEq, opNe, opEq_int, opIs, opIsnot, opIsB, isNonP, opIx, opLen, opTuple, opList, opInt, opAbs, opStr, opSum, opMax, opMin, opMM, opAny, opAll, opAA, asSeq, asLst, top, frSeq, kdP, isa, id_eq, Option.map_some, Option.bind_some, s1]
    refine (sat_numbers _ []).imp ?_
    rintro _ _ ⟨rfl, r, hr, rfl⟩
    have hf : fits ((l.map PV.int).length + (r.map PV.int).length) = true := fits1000 (by rw [List.length_map, List.length_map]; omega)
    simp only [ev_var, ev_any, ev_c, ev_bin, ev_binF, ev_chain, ev_un, ev_cons, ev_nil, ev_tup, ev_disp, ev_lst, ev_glo, ev_callB, ev_callF, ev_call, ev_if, ev_sl, ev_oN, ev_oS, ev_rev, ev_isa, ev_tOf, ev_tAnd, ev_tOr, ev_tNot, ev_andV, ev_orV, ev_notV, ev_upper, ev_yes, ev_comp, wipeE, notOwn, List.all_cons, List.all_nil, ev_range1, ev_range2, ev_isq, ev_zip2, ev_zip3, ev_enum, optR_some, bind_ok, Sat_ok, Sat_bind, List.getElem?_cons_zero, List.getElem?_cons_succ, List.set_cons_zero, List.set_cons_succ, List.length_cons, List.length_nil, Bool.true_and, Bool.and_true, Bool.and_self, Bool.or_true, Bool.true_or, Bool.false_or, Bool.or_false, Bool.not_true, Bool.not_false, Bool.false_and, Bool.and_false, if_true, if_false, Bool.false_eq_true, reduceIte, reduceCtorEq, opAdd, opSub, opMul, opDiv, opMod, opNeg, opI, opLt, opLe, opGt, opGe, opEq, opNe, opEq_int, opIs, opIsnot, opIsB, isNonP, opIx, opLen, opTuple, opList, opInt, opAbs, opStr, opSum, opMax, opMin, opMM, opAny, opAll, opAA, asSeq, asLst, top, frSeq, kdP, isa, id_eq, Option.map_some, Option.bind_some, hf]
    refine ⟨trivial, l ++ r, _, by rw [List.length_append]; omega, by rw [List.map_append]⟩
  · rintro e g ⟨rfl, l, s2, hl, rfl⟩
    have hlen : (rangeL 0 M).length = M.toNat := by rw [rangeL_len]; omega
    rw [hlen] at hl
    refine SatS.ret ?_
    simp only [ev_var, ev_any, ev_c, ev_bin, ev_binF, ev_chain, ev_un, ev_cons, ev_nil, ev_tup, ev_disp, ev_lst, ev_glo, ev_callB, ev_callF, ev_call, ev_if, ev_sl, ev_oN, ev_oS, ev_rev, ev_isa, ev_tOf, ev_tAnd, ev_tOr, ev_tNot, ev_andV, ev_orV, ev_notV, ev_upper, ev_yes, ev_comp, wipeE, notOwn, List.all_cons, List.all_nil, ev_range1, ev_range2, ev_isq, ev_zip2, ev_zip3, ev_enum, optR_some, bind_ok, Sat_ok, Sat_bind, List.getElem?_cons_zero, List.getElem?_cons_succ, List.set_cons_zero, List.set_cons_succ, List.length_cons, List.length_nil, Bool.true_and, Bool.and_true, Bool.and_self, Bool.or_true, Bool.true_or, Bool.false_or, Bool.or_false, Bool.not_true, Bool.not_false, Bool.false_and, Bool.and_false, if_true, if_false, Bool.false_eq_true, reduceIte, reduceCtorEq, fits1000 (show 2 ≤ 1000000 by omega), fits1000 (show 1 ≤ 1000000 by omega)]
    refine ⟨l, 0, 0, rfl, ?_, by omega, rfl, Int.le_refl _, Int.le_refl _⟩
    rintro rfl
    have : ([] : List Int).length = 0 := rfl
    omega
theorem sat_side {p : PV} {g : G} {B n : Nat} {w l : Int} (h : Pool p g B) (hB : B ≤ 100000000) (hn : n ≤ 100) (hw : 0 < w) (hw' : w ≤ 9) (hl : 0 < l) : Sat (F_law_side [p, .int n, .int w, .int l] g) fun v g' => ∃ s : List Int, v = ti s ∧ Side n s ∧ Pool p g' (B + 2 * n) := by
  refine satFn rfl ?_
  show SatS (B_law_side [.val p, .val (.int n), .val (.int w), .val (.int l), .un] g) _ _
  refine SatS.ret ?_
  simp only [ev_var, ev_any, ev_c, ev_bin, ev_binF, ev_chain, ev_un, ev_cons, ev_nil, ev_tup, ev_disp, ev_lst, ev_glo, ev_callB, ev_callF, ev_call, ev_if, ev_sl, ev_oN, ev_oS, ev_rev, ev_isa, ev_tOf, ev_tAnd, ev_tOr, ev_tNot, ev_andV, ev_orV, ev_notV, ev_upper, ev_yes, ev_comp, wipeE, notOwn, List.all_cons, List.all_nil, ev_range1, ev_range2, ev_isq, ev_zip2, ev_zip3, ev_enum, optR_some, bind_ok, Sat_ok, Sat_bind, List.getElem?_cons_zero, List.getElem?_cons_succ, List.set_cons_zero, List.set_cons_succ, List.length_cons, List.length_nil, Bool.true_and, Bool.and_true, Bool.and_self, Bool.or_true, Bool.true_or, Bool.false_or, Bool.or_false, Bool.not_true, Bool.not_false, Bool.false_and, Bool.and_false, if_true, if_false, Bool.false_eq_true, reduceIte, reduceCtorEq, opAdd, opSub, opMul, opDiv, opMod, opNeg, opI, opLt, opLe, opGt, opGe, opEq, opNe, opEq_int, opIs, opIsnot, opIsB, isNonP, opIx, opLen, opTuple, opList, opInt, opAbs, opStr, opSum, opMax, opMin, opMM, opAny, opAll, opAA, asSeq, asLst, top, frSeq, kdP, isa, id_eq, Option.map_some, Option.bind_some, rg1 (show (0 : Int) ≤ n by omega), rg2 (show (n : Int) ≤ 1000000 by omega)]
  refine sat_comp (fun k acc g' => ∃ s : List Int, acc = s.map .int ∧ s.length = k ∧ (∀ x ∈ s, 0 ≤ x ∧ x ≤ 10) ∧ Pool p g' (B + 2 * k)) ?_ ?_ ⟨[], rfl, rfl, by simp, h⟩
  · rintro k x acc g' hx ⟨s, rfl, hs, hb, hp⟩
    obtain ⟨rfl, hk, _⟩ := range_at hx
    refine ⟨_, rfl, ?_⟩
    simp only [ev_var, ev_any, ev_c, ev_bin, ev_binF, ev_chain, ev_un, ev_cons, ev_nil, ev_tup, ev_disp, ev_lst, ev_glo, ev_callB, ev_callF, ev_call, ev_if, ev_sl, ev_oN, ev_oS, ev_rev, ev_isa, ev_tOf, ev_tAnd, ev_tOr, ev_tNot, ev_andV, ev_orV, ev_notV, ev_upper, ev_yes, ev_comp, wipeE, notOwn, List.all_cons, List.all_nil, ev_range1, ev_range2, ev_isq, ev_zip2, ev_zip3, ev_enum, optR_some, bind_ok, Sat_ok, Sat_bind, List.getElem?_cons_zero, List.getElem?_cons_succ, List.set_cons_zero, List.set_cons_succ, List.length_cons, List.length_nil, Bool.true_and, Bool.and_true, Bool.and_self, Bool.or_true, Bool.true_or, Bool.false_or, Bool.or_false, Bool.not_true, Bool.not_false, Bool.false_and, Bool.and_false, if_true, if_false, Bool.false_eq_true, reduceIte, reduceCtorEq, fits1000 (show 2 ≤ 1000000 by omega)]
    refine (sat_draw hp (by omega) hw).imp ?_
    rintro _ g1 ⟨i, rfl, i0, i1, hp1⟩
    simp only [ev_var, ev_any, ev_c, ev_bin, ev_binF, ev_chain, ev_un, ev_cons, ev_nil, ev_tup, ev_disp, ev_lst, ev_glo, ev_callB, ev_callF, ev_call, ev_if, ev_sl, ev_oN, ev_oS, ev_rev, ev_isa, ev_tOf, ev_tAnd, ev_tOr, ev_tNot, ev_andV, ev_orV, ev_notV, ev_upper, ev_yes, ev_comp, wipeE, notOwn, List.all_cons, List.all_nil, ev_range1, ev_range2, ev_isq, ev_zip2, ev_zip3, ev_enum, optR_some, bind_ok, Sat_ok, Sat_bind, List.getElem?_cons_zero, List.getElem?_cons_succ, List.set_cons_zero, List.set_cons_succ, List.length_cons, List.length_nil, Bool.true_and, Bool.and_true, Bool.and_self, Bool.or_true, Bool.true_or, Bool.false_or, Bool.or_false, Bool.not_true, Bool.not_false, Bool.false_and, Bool.and_false, if_true, if_false, Bool.false_eq_true, reduceIte, reduceCtorEq, opAdd, opSub, opMul, opDiv, opMod, opNeg, opI, opLt, opLe, opGt, opGe, opEq, opNe, opEq_int, opIs, opIsnot, opIsB, isNonP, opIx, opLen, opTuple, opList, opInt, opAbs, opStr, opSum, opMax, opMin, opMM, opAny, opAll, opAA, asSeq, asLst, top, frSeq, kdP, isa, id_eq, Option.map_some, Option.bind_some, fits1000 (show 2 ≤ 1000000 by omega)]
    refine (sat_draw hp1 (by omega) hl).imp ?_
    rintro _ g2 ⟨j, rfl, j0, j1, hp2⟩
    have key : ∃ v : Int, atI [PV.int 0, PV.int (1 + i)] (if (j == 0) = true then 1 else 0) = some (.int v) ∧ 0 ≤ v ∧ v ≤ 10 := by
      cases hj : (j == 0) with
      | true => exact ⟨1 + i, rfl, by omega, by omega⟩
      | false => exact ⟨0, rfl, by omega, by omega⟩
    obtain ⟨v, hv, v0, v1⟩ := key
    simp only [ev_var, ev_any, ev_c, ev_bin, ev_binF, ev_chain, ev_un, ev_cons, ev_nil, ev_tup, ev_disp, ev_lst, ev_glo, ev_callB, ev_callF, ev_call, ev_if, ev_sl, ev_oN, ev_oS, ev_rev, ev_isa, ev_tOf, ev_tAnd, ev_tOr, ev_tNot, ev_andV, ev_orV, ev_notV, ev_upper, ev_yes, ev_comp, wipeE, notOwn, List.all_cons, List.all_nil, ev_range1, ev_range2, ev_isq, ev_zip2, ev_zip3, ev_enum, optR_some, bind_ok, Sat_ok, Sat_bind, List.getElem?_cons_zero, List.getElem?_cons_succ, List.set_cons_zero, List.set_cons_succ, List.length_cons, List.length_nil, Bool.true_and, Bool.and_true, Bool.and_self, Bool.or_true, Bool.true_or, Bool.false_or, Bool.or_false, Bool.not_true, Bool.not_false, Bool.false_and, Bool.and_false, if_true, if_false, Bool.false_eq_true, reduceIte, reduceCtorEq, opAdd, opSub, opMul, opDiv, opMod, opNeg, opI, opLt, opLe, opGt, opGe, opEq, opNe, opEq_int, opIs, opIsnot, opIsB, isNonP, opIx, opLen, opTuple, opList, opInt, opAbs, opStr, opSum, opMax, opMin, opMM, opAny, opAll, opAA, asSeq, asLst, top, frSeq, kdP, isa, id_eq, Option.map_some, Option.bind_some, hv]
    refine ⟨s ++ [v], by rw [List.map_append]; rfl, by rw [List.length_append, hs]; rfl, ?_, hp2⟩
    intro x hx
    rcases List.mem_append.mp hx with hx | hx
    · exact hb x hx
    · rw [List.mem_singleton.mp hx]; exact ⟨v0, v1⟩
  · rintro acc g' ⟨s, rfl, hs, hb, hp⟩
    rw [rangeN_len] at hs hp
    exact ⟨s, rfl, ⟨hs, hb⟩, hp⟩

theorem sat_free {p : PV} {g : G} {B n m : Nat} {w : Int} (h : Pool p g B) (hB : B ≤ 10000000) (hn : n ≤ 5) (hm : m ≤ 5) (hw : 0 < w) (hw' : w ≤ 9) : Sat (F_law_free_net [p, .int n, .int m, .int w] g) fun v g' => ∃ ds, v = netP n ds ∧ ds.length = m ∧ (∀ d ∈ ds, Side n d.1 ∧ Side n d.2) ∧ Pool p g' (B + 200) := by
  refine satFn rfl ?_
  show SatS (B_law_free_net [.val p, .val (.int n), .val (.int m), .val (.int w), .un] g) _ _
  refine SatS.ret ?_
  simp only [ev_var, ev_any, ev_c, ev_bin, ev_binF, ev_chain, ev_un, ev_cons, ev_nil, ev_tup, ev_disp, ev_lst, ev_glo, ev_callB, ev_callF, ev_call, ev_if, ev_sl, ev_oN, ev_oS, ev_rev, ev_isa, ev_tOf, ev_tAnd, ev_tOr, ev_tNot, ev_andV, ev_orV, ev_notV, ev_upper, ev_yes, ev_comp, wipeE, notOwn, List.all_cons, List.all_nil, ev_range1, ev_range2, ev_isq, ev_zip2, ev_zip3, ev_enum, optR_some, bind_ok, Sat_ok, Sat_bind, List.getElem?_cons_zero, List.getElem?_cons_succ, List.set_cons_zero, List.set_cons_succ, List.length_cons, List.length_nil, Bool.true_and, Bool.and_true, Bool.and_self, Bool.or_true, Bool.true_or, Bool.false_or, Bool.or_false, Bool.not_true, Bool.not_false, Bool.false_and, Bool.and_false, if_true, if_false, Bool.false_eq_true, reduceIte, reduceCtorEq, opAdd, opSub, opMul, opDiv, opMod, opNeg, opI, opLt, opLe, opGt, opGe, opEq, opNe, opEq_int, opIs, opIsnot, opIsB, isNonP, opIx, opLen, opTuple, opList, opInt, opAbs, opStr, opSum, opMax, opMin, opMM, opAny, opAll, opAA, asSeq, asLst, top, frSeq, kdP, isa, id_eq, Option.map_some, Option.bind_some, rg1 (show (0 : Int) ≤ m by omega), rg2 (show (m : Int) ≤ 1000000 by omega)]
  refine sat_comp (fun k acc g' => ∃ ds : List (List Int × List Int), acc = ds.map dp ∧ ds.length = k ∧ (∀ d ∈ ds, Side n d.1 ∧ Side n d.2) ∧ Pool p g' (B + 20 * k)) ?_ ?_ ⟨[], rfl, rfl, by simp, h⟩
  · rintro k x acc g' hx ⟨ds, rfl, hs, hb, hp⟩
    obtain ⟨rfl, hk, _⟩ := range_at hx
    refine ⟨_, rfl, ?_⟩
    simp only [ev_var, ev_any, ev_c, ev_bin, ev_binF, ev_chain, ev_un, ev_cons, ev_nil, ev_tup, ev_disp, ev_lst, ev_glo, ev_callB, ev_callF, ev_call, ev_if, ev_sl, ev_oN, ev_oS, ev_rev, ev_isa, ev_tOf, ev_tAnd, ev_tOr, ev_tNot, ev_andV, ev_orV, ev_notV, ev_upper, ev_yes, ev_comp, wipeE, notOwn, List.all_cons, List.all_nil, ev_range1, ev_range2, ev_isq, ev_zip2, ev_zip3, ev_enum, optR_some, bind_ok, Sat_ok, Sat_bind, List.getElem?_cons_zero, List.getElem?_cons_succ, List.set_cons_zero, List.set_cons_succ, List.length_cons, List.length_nil, Bool.true_and, Bool.and_true, Bool.and_self, Bool.or_true, Bool.true_or, Bool.false_or, Bool.or_false, Bool.not_true, Bool.not_false, Bool.false_and, Bool.and_false, if_true, if_false, Bool.false_eq_true, reduceIte, reduceCtorEq]
    refine (sat_side hp (by omega) (by omega) hw hw' (by omega)).imp ?_
    rintro _ g1 ⟨s1, rfl, z1, hp1⟩
    refine (sat_side hp1 (by omega) (by omega) hw hw' (by omega)).imp ?_
    rintro _ g2 ⟨s2, rfl, z2, hp2⟩
    simp only [ev_var, ev_any, ev_c, ev_bin, ev_binF, ev_chain, ev_un, ev_cons, ev_nil, ev_tup, ev_disp, ev_lst, ev_glo, ev_callB, ev_callF, ev_call, ev_if, ev_sl, ev_oN, ev_oS, ev_rev, ev_isa, ev_tOf, ev_tAnd, ev_tOr, ev_tNot, ev_andV, ev_orV, ev_notV, ev_upper, ev_yes, ev_comp, wipeE, notOwn, List.all_cons, List.all_nil, ev_range1, ev_range2, ev_isq, ev_zip2, ev_zip3, ev_enum, optR_some, bind_ok, Sat_ok, Sat_bind, List.getElem?_cons_zero, List.getElem?_cons_succ, List.set_cons_zero, List.set_cons_succ, List.length_cons, List.length_nil, Bool.true_and, Bool.and_true, Bool.and_self, Bool.or_true, Bool.true_or, Bool.false_or, Bool.or_false, Bool.not_true, Bool.not_false, Bool.false_and, Bool.and_false, if_true, if_false, Bool.false_eq_true, reduceIte, reduceCtorEq, fits1000 (show 2 ≤ 1000000 by omega)]
    refine ⟨ds ++ [(s1, s2)], by rw [List.map_append]; rfl, by rw [List.length_append, hs]; rfl, ?_, hp2.mono (by omega)⟩
    intro x hx
    rcases List.mem_append.mp hx with hx | hx
    · exact hb x hx
    · rw [List.mem_singleton.mp hx]; exact ⟨z1, z2⟩
  · rintro acc g' ⟨ds, rfl, hs, hb, hp⟩
    rw [rangeN_len] at hs hp
    simp only [ev_var, ev_any, ev_c, ev_bin, ev_binF, ev_chain, ev_un, ev_cons, ev_nil, ev_tup, ev_disp, ev_lst, ev_glo, ev_callB, ev_callF, ev_call, ev_if, ev_sl, ev_oN, ev_oS, ev_rev, ev_isa, ev_tOf, ev_tAnd, ev_tOr, ev_tNot, ev_andV, ev_orV, ev_notV, ev_upper, ev_yes, ev_comp, wipeE, notOwn, List.all_cons, List.all_nil, ev_range1, ev_range2, ev_isq, ev_zip2, ev_zip3, ev_enum, optR_some, bind_ok, Sat_ok, Sat_bind, List.getElem?_cons_zero, List.getElem?_cons_succ, List.set_cons_zero, List.set_cons_succ, List.length_cons, List.length_nil, Bool.true_and, Bool.and_true, Bool.and_self, Bool.or_true, Bool.true_or, Bool.false_or, Bool.or_false, Bool.not_true, Bool.not_false, Bool.false_and, Bool.and_false, if_true, if_false, Bool.false_eq_true, reduceIte, reduceCtorEq, opAdd, opSub, opMul, opDiv, opMod, opNeg, opI, opLt, opLe, opGt, opGe, opEq, opNe, opEq_int, opIs, opIsnot, opIsB, isNonP, opIx, opLen, opTuple, opList, opInt, opAbs, opStr, opSum, opMax, opMin, opMM, opAny, opAll, opAA, asSeq, asLst, top, frSeq, kdP, isa, id_eq, Option.map_some, Option.bind_some, fits1000 (show 2 ≤ 1000000 by omega)]
    exact ⟨ds, rfl, hs, hb, hp.mono (by omega)⟩
theorem side_zero (n : Nat) : Side n (List.replicate n 0) := ⟨List.length_replicate, fun x h => by rw [(List.mem_replicate.mp h).2]; omega⟩
theorem rep_zero (n : Nat) : (List.replicate n [PV.int 0]).flatten = (List.replicate n (0 : Int)).map .int := by
  induction n with
  | zero => rfl
  | succ n ih => rw [List.replicate_succ, List.flatten_cons, ih, List.replicate_succ]; rfl
theorem ixN_nat {n k : Nat} (h : k < n) : ixN n (k : Int) = some k := by
  unfold ixN
  rw [if_pos (by omega), if_pos (by omega), Int.toNat_natCast]
theorem nn_nat {i : Int} (h : 0 ≤ i) : ∃ k : Nat, i = k := ⟨i.toNat, by omega⟩
theorem getI {l : List Int} {k : Nat} (h : k < l.length) : atI (l.map PV.int) (k : Int) = some (.int (l[k]'h)) := by
  apply atI_nat
  rw [List.getElem?_map, List.getElem?_eq_getElem h]; rfl
theorem set_map (l : List Int) (k : Nat) (x : Int) : (l.map PV.int).set k (.int x) = (l.set k x).map .int := by
  rw [List.map_set]
theorem sat_even {p : PV} {g : G} {B n m : Nat} (h : Pool p g B) (hB : B ≤ 10000000) (n1 : 1 ≤ n) (hn : n ≤ 5) (hm : m ≤ 5) : Sat (F_law_even_net [p, .int n, .int m] g) fun v g' => ∃ ds, v = netP n ds ∧ ds.length = m ∧ (∀ d ∈ ds, Side n d.1 ∧ Side n d.2) ∧ Pool p g' (B + 200) := by
  refine satFn rfl ?_
  show SatS (B_law_even_net [.val p, .val (.int n), .val (.int m), .un, .un, .un, .un, .un, .un, .un, .un] g) _ _
  refine SatS.seq (SatS.own ?_)
  simp only [ev_var, ev_any, ev_c, ev_bin, ev_binF, ev_chain, ev_un, ev_cons, ev_nil, ev_tup, ev_disp, ev_lst, ev_glo, ev_callB, ev_callF, ev_call, ev_if, ev_sl, ev_oN, ev_oS, ev_rev, ev_isa, ev_tOf, ev_tAnd, ev_tOr, ev_tNot, ev_andV, ev_orV, ev_notV, ev_upper, ev_yes, ev_comp, wipeE, notOwn, List.all_cons, List.all_nil, ev_range1, ev_range2, ev_isq, ev_zip2, ev_zip3, ev_enum, optR_some, bind_ok, Sat_ok, Sat_bind, List.getElem?_cons_zero, List.getElem?_cons_succ, List.set_cons_zero, List.set_cons_succ, List.length_cons, List.length_nil, Bool.true_and, Bool.and_true, Bool.and_self, Bool.or_true, Bool.true_or, Bool.false_or, Bool.or_false, Bool.not_true, Bool.not_false, Bool.false_and, Bool.and_false, if_true, if_false, Bool.false_eq_true, reduceIte, reduceCtorEq, fits1000 (show 0 ≤ 1000000 by omega)]
  refine SatS.seq (SatS.for_ ?_)
  simp only [ev_var, ev_any, ev_c, ev_bin, ev_binF, ev_chain, ev_un, ev_cons, ev_nil, ev_tup, ev_disp, ev_lst, ev_glo, ev_callB, ev_callF, ev_call, ev_if, ev_sl, ev_oN, ev_oS, ev_rev, ev_isa, ev_tOf, ev_tAnd, ev_tOr, ev_tNot, ev_andV, ev_orV, ev_notV, ev_upper, ev_yes, ev_comp, wipeE, notOwn, List.all_cons, List.all_nil, ev_range1, ev_range2, ev_isq, ev_zip2, ev_zip3, ev_enum, optR_some, bind_ok, Sat_ok, Sat_bind, List.getElem?_cons_zero, List.getElem?_cons_succ, List.set_cons_zero, List.set_cons_succ, List.length_cons, List.length_nil, Bool.true_and, Bool.and_true, Bool.and_self, Bool.or_true, Bool.true_or, Bool.false_or, Bool.or_false, Bool.not_true, Bool.not_false, Bool.false_and, Bool.and_false, if_true, if_false, Bool.false_eq_true, reduceIte, reduceCtorEq, opAdd, opSub, opMul, opDiv, opMod, opNeg, opI, opLt, opLe, opGt, opGe, opEq, opNe, opEq_int, opIs, opIsnot, opIsB, isNonP, opIx, opLen, opTuple, opList, opInt, opAbs, opStr, opSum, opMax, opMin, opMM, opAny, opAll, opAA, asSeq, asLst, top, frSeq, kdP, isa, id_eq, Option.map_some, Option.bind_some, rg1 (show (0 : Int) ≤ m by omega), rg2 (show (m : Int) ≤ 1000000 by omega)]
  refine sat_for (fun k e g' => ∃ (ds : List (List Int × List Int)) (s4 s5 s6 s7 s8 s9 s10 : SV), ds.length = k ∧ (∀ d ∈ ds, Side n d.1 ∧ Side n d.2) ∧ Pool p g' (B + 20 * k) ∧ e = [.val p, .val (.int n), .val (.int m), .own (.lst (ds.map dp)), s4, s5, s6, s7, s8, s9, s10]) ?_ ?_ ⟨[], _, _, _, _, _, _, _, rfl, by simp, h, rfl⟩
  · rintro k x e g' hx ⟨ds, s4, s5, s6, s7, s8, s9, s10, hs, hb, hp, rfl⟩
    obtain ⟨rfl, hk, _⟩ := range_at hx
    refine ⟨_, rfl, ?_⟩
    refine SatS.seq (SatS.set ?_)
    simp only [ev_var, ev_any, ev_c, ev_bin, ev_binF, ev_chain, ev_un, ev_cons, ev_nil, ev_tup, ev_disp, ev_lst, ev_glo, ev_callB, ev_callF, ev_call, ev_if, ev_sl, ev_oN, ev_oS, ev_rev, ev_isa, ev_tOf, ev_tAnd, ev_tOr, ev_tNot, ev_andV, ev_orV, ev_notV, ev_upper, ev_yes, ev_comp, wipeE, notOwn, List.all_cons, List.all_nil, ev_range1, ev_range2, ev_isq, ev_zip2, ev_zip3, ev_enum, optR_some, bind_ok, Sat_ok, Sat_bind, List.getElem?_cons_zero, List.getElem?_cons_succ, List.set_cons_zero, List.set_cons_succ, List.length_cons, List.length_nil, Bool.true_and, Bool.and_true, Bool.and_self, Bool.or_true, Bool.true_or, Bool.false_or, Bool.or_false, Bool.not_true, Bool.not_false, Bool.false_and, Bool.and_false, if_true, if_false, Bool.false_eq_true, reduceIte, reduceCtorEq]
    refine (sat_draw hp (by omega) (by omega)).imp ?_
    rintro _ g1 ⟨i, rfl, i0, i1, hp1⟩
    simp only [ev_var, ev_any, ev_c, ev_bin, ev_binF, ev_chain, ev_un, ev_cons, ev_nil, ev_tup, ev_disp, ev_lst, ev_glo, ev_callB, ev_callF, ev_call, ev_if, ev_sl, ev_oN, ev_oS, ev_rev, ev_isa, ev_tOf, ev_tAnd, ev_tOr, ev_tNot, ev_andV, ev_orV, ev_notV, ev_upper, ev_yes, ev_comp, wipeE, notOwn, List.all_cons, List.all_nil, ev_range1, ev_range2, ev_isq, ev_zip2, ev_zip3, ev_enum, optR_some, bind_ok, Sat_ok, Sat_bind, List.getElem?_cons_zero, List.getElem?_cons_succ, List.set_cons_zero, List.set_cons_succ, List.length_cons, List.length_nil, Bool.true_and, Bool.and_true, Bool.and_self, Bool.or_true, Bool.true_or, Bool.false_or, Bool.or_false, Bool.not_true, Bool.not_false, Bool.false_and, Bool.and_false, if_true, if_false, Bool.false_eq_true, reduceIte, reduceCtorEq, opAdd, opSub, opMul, opDiv, opMod, opNeg, opI, opLt, opLe, opGt, opGe, opEq, opNe, opEq_int, opIs, opIsnot, opIsB, isNonP, opIx, opLen, opTuple, opList, opInt, opAbs, opStr, opSum, opMax, opMin, opMM, opAny, opAll, opAA, asSeq, asLst, top, frSeq, kdP, isa, id_eq, Option.map_some, Option.bind_some]
    refine SatS.seq (SatS.own ?_)
    simp only [ev_var, ev_any, ev_c, ev_bin, ev_binF, ev_chain, ev_un, ev_cons, ev_nil, ev_tup, ev_disp, ev_lst, ev_glo, ev_callB, ev_callF, ev_call, ev_if, ev_sl, ev_oN, ev_oS, ev_rev, ev_isa, ev_tOf, ev_tAnd, ev_tOr, ev_tNot, ev_andV, ev_orV, ev_notV, ev_upper, ev_yes, ev_comp, wipeE, notOwn, List.all_cons, List.all_nil, ev_range1, ev_range2, ev_isq, ev_zip2, ev_zip3, ev_enum, optR_some, bind_ok, Sat_ok, Sat_bind, List.getElem?_cons_zero, List.getElem?_cons_succ, List.set_cons_zero, List.set_cons_succ, List.length_cons, List.length_nil, Bool.true_and, Bool.and_true, Bool.and_self, Bool.or_true, Bool.true_or, Bool.false_or, Bool.or_false, Bool.not_true, Bool.not_false, Bool.false_and, Bool.and_false, if_true, if_false, Bool.false_eq_true, reduceIte, reduceCtorEq, fits1000 (show 0 ≤ 1000000 by omega)]
    refine SatS.seq (SatS.for_ ?_)
    simp only [ev_var, ev_any, ev_c, ev_bin, ev_binF, ev_chain, ev_un, ev_cons, ev_nil, ev_tup, ev_disp, ev_lst, ev_glo, ev_callB, ev_callF, ev_call, ev_if, ev_sl, ev_oN, ev_oS, ev_rev, ev_isa, ev_tOf, ev_tAnd, ev_tOr, ev_tNot, ev_andV, ev_orV, ev_notV, ev_upper, ev_yes, ev_comp, wipeE, notOwn, List.all_cons, List.all_nil, ev_range1, ev_range2, ev_isq, ev_zip2, ev_zip3, ev_enum, optR_some, bind_ok, Sat_ok, Sat_bind, List.getElem?_cons_zero, List.getElem?_cons_succ, List.set_cons_zero, List.set_cons_succ, List.length_cons, List.length_nil, Bool.true_and, Bool.and_true, Bool.and_self, Bool.or_true, Bool.true_or, Bool.false_or, Bool.or_false, Bool.not_true, Bool.not_false, Bool.false_and, Bool.and_false, if_true, if_false, Bool.false_eq_true, reduceIte, reduceCtorEq, opAdd, opSub, opMul, opDiv, opMod, opNeg, opI, opLt, opLe, opGt, opGe, opEq, opNe, opEq_int, opIs, opIsnot, opIsB, isNonP, opIx, opLen, opTuple, opList, opInt, opAbs, opStr, opSum, opMax, opMin, opMM, opAny, opAll, opAA, asSeq, asLst, top, frSeq, kdP, isa, id_eq, Option.map_some, Option.bind_some, rg1 (show (0 : Int) ≤ 2 by omega), rg2 (show (2 : Int) ≤ 1000000 by omega)]
    obtain ⟨many, hmany⟩ := nn_nat (show 0 ≤ 1 + i by omega)
    rw [hmany]
    refine sat_for (fun k2 e g' => ∃ (ss : List (List Int)) (s7 s8 s9 s10 : SV), ss.length = k2 ∧ (∀ d ∈ ss, Side n d) ∧ Pool p g' (B + 20 * k + 1 + 2 * k2) ∧ e = [.val p, .val (.int n), .val (.int m), .own (.lst (ds.map dp)), .val (.int (k : Int)), .val (.int many), .own (.lst (ss.map ti)), s7, s8, s9, s10]) ?_ ?_ ⟨[], _, _, _, _, rfl, by simp, hp1, rfl⟩
    · rintro k2 x e g' hx ⟨ss, s7, s8, s9, s10, hs2, hb2, hp2, rfl⟩
      obtain ⟨rfl, hk2, _⟩ := range_at hx
      refine ⟨_, rfl, ?_⟩
      refine SatS.seq (SatS.own ?_)
      have c1 : decide ((-1000 : Int) ≤ n) = true := decide_eq_true (by omega)
      have c2 : decide ((n : Int) ≤ 1000) = true := decide_eq_true (by omega)
      simp only [ev_var, ev_any, ev_c, ev_bin, ev_binF, ev_chain, ev_un, ev_cons, ev_nil, ev_tup, ev_disp, ev_lst, ev_glo, ev_callB, ev_callF, ev_call, ev_if, ev_sl, ev_oN, ev_oS, ev_rev, ev_isa, ev_tOf, ev_tAnd, ev_tOr, ev_tNot, ev_andV, ev_orV, ev_notV, ev_upper, ev_yes, ev_comp, wipeE, notOwn, List.all_cons, List.all_nil, ev_range1, ev_range2, ev_isq, ev_zip2, ev_zip3, ev_enum, optR_some, bind_ok, Sat_ok, Sat_bind, List.getElem?_cons_zero, List.getElem?_cons_succ, List.set_cons_zero, List.set_cons_succ, List.length_cons, List.length_nil, Bool.true_and, Bool.and_true, Bool.and_self, Bool.or_true, Bool.true_or, Bool.false_or, Bool.or_false, Bool.not_true, Bool.not_false, Bool.false_and, Bool.and_false, if_true, if_false, Bool.false_eq_true, reduceIte, reduceCtorEq, opAdd, opSub, opMul, opDiv, opMod, opNeg, opI, opLt, opLe, opGt, opGe, opEq, opNe, opEq_int, opIs, opIsnot, opIsB, isNonP, opIx, opLen, opTuple, opList, opInt, opAbs, opStr, opSum, opMax, opMin, opMM, opAny, opAll, opAA, asSeq, asLst, top, frSeq, kdP, isa, id_eq, Option.map_some, Option.bind_some, opMulL, c1, c2, fits1000 (show 1 ≤ 1000000 by omega), show Nat.ble 1 1000 = true from rfl, Int.toNat_natCast, rep_zero]
      refine SatS.seq (SatS.for_ ?_)
      simp only [ev_var, ev_any, ev_c, ev_bin, ev_binF, ev_chain, ev_un, ev_cons, ev_nil, ev_tup, ev_disp, ev_lst, ev_glo, ev_callB, ev_callF, ev_call, ev_if, ev_sl, ev_oN, ev_oS, ev_rev, ev_isa, ev_tOf, ev_tAnd, ev_tOr, ev_tNot, ev_andV, ev_orV, ev_notV, ev_upper, ev_yes, ev_comp, wipeE, notOwn, List.all_cons, List.all_nil, ev_range1, ev_range2, ev_isq, ev_zip2, ev_zip3, ev_enum, optR_some, bind_ok, Sat_ok, Sat_bind, List.getElem?_cons_zero, List.getElem?_cons_succ, List.set_cons_zero, List.set_cons_succ, List.length_cons, List.length_nil, Bool.true_and, Bool.and_true, Bool.and_self, Bool.or_true, Bool.true_or, Bool.false_or, Bool.or_false, Bool.not_true, Bool.not_false, Bool.false_and, Bool.and_false, if_true, if_false, Bool.false_eq_true, reduceIte, reduceCtorEq, opAdd, opSub, opMul, opDiv, opMod, opNeg, opI, opLt, opLe, opGt, opGe, opEq, opNe, opEq_int, opIs, opIsnot, opIsB, isNonP, opIx, opLen, opTuple, opList, opInt, opAbs, opStr, opSum, opMax, opMin, opMM, opAny, opAll, opAA, asSeq, asLst, top, frSeq, kdP, isa, id_eq, Option.map_some, Option.bind_some, rg1 (show (0 : Int) ≤ many by omega), rg2 (show (many : Int) ≤ 1000000 by omega)]
      refine sat_for (fun k3 e g' => ∃ (ms : List Int) (s9 s10 : SV), ms.length = n ∧ (∀ x ∈ ms, 0 ≤ x ∧ x ≤ k3) ∧ Pool p g' (B + 20 * k + 1 + 2 * k2 + k3) ∧ e = [.val p, .val (.int n), .val (.int m), .own (.lst (ds.map dp)), .val (.int (k : Int)), .val (.int many), .own (.lst (ss.map ti)), .val (.int (k2 : Int)), .own (.lst (ms.map .int)), s9, s10]) ?_ ?_ ⟨List.replicate n 0, _, _, List.length_replicate, fun x h => by rw [(List.mem_replicate.mp h).2]; omega, hp2, rfl⟩
      · rintro k3 x e g' hx ⟨ms, s9, s10, hl3, hb3, hp3, rfl⟩
        obtain ⟨rfl, hk3, _⟩ := range_at hx
        refine ⟨_, rfl, ?_⟩
        refine SatS.seq (SatS.set ?_)
        simp only [ev_var, ev_any, ev_c, ev_bin, ev_binF, ev_chain, ev_un, ev_cons, ev_nil, ev_tup, ev_disp, ev_lst, ev_glo, ev_callB, ev_callF, ev_call, ev_if, ev_sl, ev_oN, ev_oS, ev_rev, ev_isa, ev_tOf, ev_tAnd, ev_tOr, ev_tNot, ev_andV, ev_orV, ev_notV, ev_upper, ev_yes, ev_comp, wipeE, notOwn, List.all_cons, List.all_nil, ev_range1, ev_range2, ev_isq, ev_zip2, ev_zip3, ev_enum, optR_some, bind_ok, Sat_ok, Sat_bind, List.getElem?_cons_zero, List.getElem?_cons_succ, List.set_cons_zero, List.set_cons_succ, List.length_cons, List.length_nil, Bool.true_and, Bool.and_true, Bool.and_self, Bool.or_true, Bool.true_or, Bool.false_or, Bool.or_false, Bool.not_true, Bool.not_false, Bool.false_and, Bool.and_false, if_true, if_false, Bool.false_eq_true, reduceIte, reduceCtorEq]
        refine (sat_draw hp3 (by omega) (by omega)).imp ?_
        rintro _ g2 ⟨a, rfl, a0, a1, hp4⟩
        obtain ⟨at_, rfl⟩ := nn_nat a0
        have hat : at_ < ms.length := by omega
        refine SatS.setIx (xs := ms.map .int) rfl ?_
        simp only [ev_var, ev_any, ev_c, ev_bin, ev_binF, ev_chain, ev_un, ev_cons, ev_nil, ev_tup, ev_disp, ev_lst, ev_glo, ev_callB, ev_callF, ev_call, ev_if, ev_sl, ev_oN, ev_oS, ev_rev, ev_isa, ev_tOf, ev_tAnd, ev_tOr, ev_tNot, ev_andV, ev_orV, ev_notV, ev_upper, ev_yes, ev_comp, wipeE, notOwn, List.all_cons, List.all_nil, ev_range1, ev_range2, ev_isq, ev_zip2, ev_zip3, ev_enum, optR_some, bind_ok, Sat_ok, Sat_bind, List.getElem?_cons_zero, List.getElem?_cons_succ, List.set_cons_zero, List.set_cons_succ, List.length_cons, List.length_nil, Bool.true_and, Bool.and_true, Bool.and_self, Bool.or_true, Bool.true_or, Bool.false_or, Bool.or_false, Bool.not_true, Bool.not_false, Bool.false_and, Bool.and_false, if_true, if_false, Bool.false_eq_true, reduceIte, reduceCtorEq, opAdd, opSub, opMul, opDiv, opMod, opNeg, opI, opLt, opLe, opGt, opGe, opEq, opNe, opEq_int, opIs, opIsnot, opIsB, isNonP, opIx, opLen, opTuple, opList, opInt, opAbs, opStr, opSum, opMax, opMin, opMM, opAny, opAll, opAA, asSeq, asLst, top, frSeq, kdP, isa, id_eq, Option.map_some, Option.bind_some, getI hat]
        refine ⟨at_, at_, rfl, by rw [List.length_map]; exact ixN_nat hat, ms.set at_ (ms[at_] + 1), _, _, by rw [List.length_set]; exact hl3, ?_, hp4, by rw [set_map]⟩
        intro x hx
        rcases List.mem_or_eq_of_mem_set hx with hx | hx
        · have := hb3 x hx; omega
        · have := hb3 _ (List.getElem_mem hat); omega
      · rintro e g' ⟨ms, s9, s10, hl3, hb3, hp3, rfl⟩
        rw [rangeN_len] at hb3 hp3
        refine SatS.append rfl ?_
        simp only [ev_var, ev_any, ev_c, ev_bin, ev_binF, ev_chain, ev_un, ev_cons, ev_nil, ev_tup, ev_disp, ev_lst, ev_glo, ev_callB, ev_callF, ev_call, ev_if, ev_sl, ev_oN, ev_oS, ev_rev, ev_isa, ev_tOf, ev_tAnd, ev_tOr, ev_tNot, ev_andV, ev_orV, ev_notV, ev_upper, ev_yes, ev_comp, wipeE, notOwn, List.all_cons, List.all_nil, ev_range1, ev_range2, ev_isq, ev_zip2, ev_zip3, ev_enum, optR_some, bind_ok, Sat_ok, Sat_bind, List.getElem?_cons_zero, List.getElem?_cons_succ, List.set_cons_zero, List.set_cons_succ, List.length_cons, List.length_nil, Bool.true_and, Bool.and_true, Bool.and_self, Bool.or_true, Bool.true_or, Bool.false_or, Bool.or_false, Bool.not_true, Bool.not_false, Bool.false_and, Bool.and_false, if_true, if_false, Bool.false_eq_true, reduceIte, reduceCtorEq, opAdd, opSub, opMul, opDiv, opMod, opNeg, opI, opLt, opLe, opGt, opGe, opEq, opNe, opEq_int, opIs, opIsnot, opIsB, isNonP, opIx, opLen, opTuple, opList, opInt, opAbs, opStr, opSum, opMax, opMin, opMM, opAny, opAll, opAA, asSeq, asLst, top, frSeq, kdP, isa, id_eq, Option.map_some, Option.bind_some]
        refine ⟨fits1000 (by rw [List.length_map]; omega), ss ++ [ms], _, _, _, _, by rw [List.length_append, hs2]; rfl, ?_, hp3.mono (by omega), by rw [List.map_append]; rfl⟩
        intro d hd
        rcases List.mem_append.mp hd with hd | hd
        · exact hb2 d hd
        · rw [List.mem_singleton.mp hd]; exact ⟨hl3, fun x hx => by have := hb3 x hx; omega⟩
    · rintro e g' ⟨ss, s7, s8, s9, s10, hs2, hb2, hp2, rfl⟩
      have e2 : (rangeL 0 2).length = 2 := by rw [rangeL_len]; rfl
      rw [e2] at hs2 hp2
      match ss, hs2 with
      | [a, b], _ =>
        refine SatS.append rfl ?_
        simp only [ev_var, ev_any, ev_c, ev_bin, ev_binF, ev_chain, ev_un, ev_cons, ev_nil, ev_tup, ev_disp, ev_lst, ev_glo, ev_callB, ev_callF, ev_call, ev_if, ev_sl, ev_oN, ev_oS, ev_rev, ev_isa, ev_tOf, ev_tAnd, ev_tOr, ev_tNot, ev_andV, ev_orV, ev_notV, ev_upper, ev_yes, ev_comp, wipeE, notOwn, List.all_cons, List.all_nil, ev_range1, ev_range2, ev_isq, ev_zip2, ev_zip3, ev_enum, optR_some, bind_ok, Sat_ok, Sat_bind, List.getElem?_cons_zero, List.getElem?_cons_succ, List.set_cons_zero, List.set_cons_succ, List.length_cons, List.length_nil, Bool.true_and, Bool.and_true, Bool.and_self, Bool.or_true, Bool.true_or, Bool.false_or, Bool.or_false, Bool.not_true, Bool.not_false, Bool.false_and, Bool.and_false, if_true, if_false, Bool.false_eq_true, reduceIte, reduceCtorEq, opAdd, opSub, opMul, opDiv, opMod, opNeg, opI, opLt, opLe, opGt, opGe, opEq, opNe, opEq_int, opIs, opIsnot, opIsB, isNonP, opIx, opLen, opTuple, opList, opInt, opAbs, opStr, opSum, opMax, opMin, opMM, opAny, opAll, opAA, asSeq, asLst, top, frSeq, kdP, isa, id_eq, Option.map_some, Option.bind_some, List.map_cons, List.map_nil, show atI [ti a, ti b] 0 = some (ti a) from rfl, show atI [ti a, ti b] 1 = some (ti b) from rfl, fits1000 (show 2 ≤ 1000000 by omega)]
        refine ⟨fits1000 (by rw [List.length_map]; omega), ds ++ [(a, b)], _, _, _, _, _, _, _, by rw [List.length_append, hs]; rfl, ?_, hp2.mono (by omega), by rw [List.map_append]; rfl⟩
        intro d hd
        rcases List.mem_append.mp hd with hd | hd
        · exact hb d hd
        · rw [List.mem_singleton.mp hd]; exact ⟨hb2 a (by simp), hb2 b (by simp)⟩
  · rintro e g' ⟨ds, s4, s5, s6, s7, s8, s9, s10, hs, hb, hp, rfl⟩
    rw [rangeN_len] at hs hp
    refine SatS.ret ?_
    simp only [ev_var, ev_any, ev_c, ev_bin, ev_binF, ev_chain, ev_un, ev_cons, ev_nil, ev_tup, ev_disp, ev_lst, ev_glo, ev_callB, ev_callF, ev_call, ev_if, ev_sl, ev_oN, ev_oS, ev_rev, ev_isa, ev_tOf, ev_tAnd, ev_tOr, ev_tNot, ev_andV, ev_orV, ev_notV, ev_upper, ev_yes, ev_comp, wipeE, notOwn, List.all_cons, List.all_nil, ev_range1, ev_range2, ev_isq, ev_zip2, ev_zip3, ev_enum, optR_some, bind_ok, Sat_ok, Sat_bind, List.getElem?_cons_zero, List.getElem?_cons_succ, List.set_cons_zero, List.set_cons_succ, List.length_cons, List.length_nil, Bool.true_and, Bool.and_true, Bool.and_self, Bool.or_true, Bool.true_or, Bool.false_or, Bool.or_false, Bool.not_true, Bool.not_false, Bool.false_and, Bool.and_false, if_true, if_false, Bool.false_eq_true, reduceIte, reduceCtorEq, opAdd, opSub, opMul, opDiv, opMod, opNeg, opI, opLt, opLe, opGt, opGe, opEq, opNe, opEq_int, opIs, opIsnot, opIsB, isNonP, opIx, opLen, opTuple, opList, opInt, opAbs, opStr, opSum, opMax, opMin, opMM, opAny, opAll, opAA, asSeq, asLst, top, frSeq, kdP, isa, id_eq, Option.map_some, Option.bind_some, fits1000 (show 2 ≤ 1000000 by omega)]
    exact ⟨ds, rfl, hs, hb, hp.mono (by omega)⟩

theorem sat_less {p : PV} {g : G} {B n m : Nat} (h : Pool p g B) (hB : B ≤ 10000000) (n1 : 1 ≤ n) (hn : n ≤ 5) (hm : m ≤ 5) : Sat (F_law_less_net [p, .int n, .int m] g) fun v g' => ∃ ds, v = netP n ds ∧ ds.length = m ∧ (∀ d ∈ ds, Side n d.1 ∧ Side n d.2) ∧ Pool p g' (B + 400) := by
  refine satFn rfl ?_
  show SatS (B_law_less_net [.val p, .val (.int n), .val (.int m), .un, .un, .un, .un] g) _ _
  refine SatS.seq (SatS.own ?_)
  simp only [ev_var, ev_any, ev_c, ev_bin, ev_binF, ev_chain, ev_un, ev_cons, ev_nil, ev_tup, ev_disp, ev_lst, ev_glo, ev_callB, ev_callF, ev_call, ev_if, ev_sl, ev_oN, ev_oS, ev_rev, ev_isa, ev_tOf, ev_tAnd, ev_tOr, ev_tNot, ev_andV, ev_orV, ev_notV, ev_upper, ev_yes, ev_comp, wipeE, notOwn, List.all_cons, List.all_nil, ev_range1, ev_range2, ev_isq, ev_zip2, ev_zip3, ev_enum, optR_some, bind_ok, Sat_ok, Sat_bind, List.getElem?_cons_zero, List.getElem?_cons_succ, List.set_cons_zero, List.set_cons_succ, List.length_cons, List.length_nil, Bool.true_and, Bool.and_true, Bool.and_self, Bool.or_true, Bool.true_or, Bool.false_or, Bool.or_false, Bool.not_true, Bool.not_false, Bool.false_and, Bool.and_false, if_true, if_false, Bool.false_eq_true, reduceIte, reduceCtorEq, fits1000 (show 0 ≤ 1000000 by omega)]
  refine SatS.seq (SatS.for_ ?_)
  simp only [ev_var, ev_any, ev_c, ev_bin, ev_binF, ev_chain, ev_un, ev_cons, ev_nil, ev_tup, ev_disp, ev_lst, ev_glo, ev_callB, ev_callF, ev_call, ev_if, ev_sl, ev_oN, ev_oS, ev_rev, ev_isa, ev_tOf, ev_tAnd, ev_tOr, ev_tNot, ev_andV, ev_orV, ev_notV, ev_upper, ev_yes, ev_comp, wipeE, notOwn, List.all_cons, List.all_nil, ev_range1, ev_range2, ev_isq, ev_zip2, ev_zip3, ev_enum, optR_some, bind_ok, Sat_ok, Sat_bind, List.getElem?_cons_zero, List.getElem?_cons_succ, List.set_cons_zero, List.set_cons_succ, List.length_cons, List.length_nil, Bool.true_and, Bool.and_true, Bool.and_self, Bool.or_true, Bool.true_or, Bool.false_or, Bool.or_false, Bool.not_true, Bool.not_false, Bool.false_and, Bool.and_false, if_true, if_false, Bool.false_eq_true, reduceIte, reduceCtorEq]
  refine (sat_even h hB n1 hn hm).imp ?_
  rintro _ g1 ⟨ns, rfl, hns, hnb, hp0⟩
  simp only [ev_var, ev_any, ev_c, ev_bin, ev_binF, ev_chain, ev_un, ev_cons, ev_nil, ev_tup, ev_disp, ev_lst, ev_glo, ev_callB, ev_callF, ev_call, ev_if, ev_sl, ev_oN, ev_oS, ev_rev, ev_isa, ev_tOf, ev_tAnd, ev_tOr, ev_tNot, ev_andV, ev_orV, ev_notV, ev_upper, ev_yes, ev_comp, wipeE, notOwn, List.all_cons, List.all_nil, ev_range1, ev_range2, ev_isq, ev_zip2, ev_zip3, ev_enum, optR_some, bind_ok, Sat_ok, Sat_bind, List.getElem?_cons_zero, List.getElem?_cons_succ, List.set_cons_zero, List.set_cons_succ, List.length_cons, List.length_nil, Bool.true_and, Bool.and_true, Bool.and_self, Bool.or_true, Bool.true_or, Bool.false_or, Bool.or_false, Bool.not_true, Bool.not_false, Bool.false_and, Bool.and_false, if_true, if_false, Bool.false_eq_true, reduceIte, reduceCtorEq, opAdd, opSub, opMul, opDiv, opMod, opNeg, opI, opLt, opLe, opGt, opGe, opEq, opNe, opEq_int, opIs, opIsnot, opIsB, isNonP, opIx, opLen, opTuple, opList, opInt, opAbs, opStr, opSum, opMax, opMin, opMM, opAny, opAll, opAA, asSeq, asLst, top, frSeq, kdP, isa, id_eq, Option.map_some, Option.bind_some, show atI [PV.int n, PV.tup (ns.map dp)] 1 = some (PV.tup (ns.map dp)) from rfl]
  refine sat_for (fun k e g' => ∃ (ds : List (List Int × List Int)) (s4 s5 : SV), ds.length = k ∧ (∀ d ∈ ds, Side n d.1 ∧ Side n d.2) ∧ Pool p g' (B + 200 + 20 * k) ∧ e = [.val p, .val (.int n), .val (.int m), .own (.lst (ds.map dp)), s4, s5, .un]) ?_ ?_ ⟨[], _, _, rfl, by simp, hp0, rfl⟩
  · rintro k x e g' hx ⟨ds, s4, s5, hs, hb, hp, rfl⟩
    rw [List.getElem?_map] at hx
    cases hd : ns[k]? with
    | none => rw [hd] at hx; cases hx
    | some d =>
      rw [hd] at hx; cases hx
      have hk : k < m := by rw [← hns]; exact (List.getElem?_eq_some_iff.mp hd).1
      obtain ⟨z1, z2⟩ := hnb d (List.mem_of_getElem? hd)
      refine ⟨_, rfl, ?_⟩
      have fin : ∀ (gv : List Int) (g2 : G), Side n gv → Pool p g2 (B + 200 + 20 * (k + 1)) → SatS (sAppend 3 (eTup (aCons (eVar 4) (aCons (eVar 5) aNil))) [.val p, .val (.int n), .val (.int m), .own (.lst (ds.map dp)), .val (ti d.1), .val (ti gv), .un] g2)
          (fun e g' => ∃ (ds : List (List Int × List Int)) (s4 s5 : SV), ds.length = k + 1 ∧ (∀ d ∈ ds, Side n d.1 ∧ Side n d.2) ∧ Pool p g' (B + 200 + 20 * (k + 1)) ∧ e = [.val p, .val (.int n), .val (.int m), .own (.lst (ds.map dp)), s4, s5, .un]) (fun v g' => ∃ ds, v = netP n ds ∧ ds.length = m ∧ (∀ d ∈ ds, Side n d.1 ∧ Side n d.2) ∧ Pool p g' (B + 400)) := by
        intro gv g2 zg hp2
        refine SatS.append rfl ?_
        simp only [ev_var, ev_any, ev_c, ev_bin, ev_binF, ev_chain, ev_un, ev_cons, ev_nil, ev_tup, ev_disp, ev_lst, ev_glo, ev_callB, ev_callF, ev_call, ev_if, ev_sl, ev_oN, ev_oS, ev_rev, ev_isa, ev_tOf, ev_tAnd, ev_tOr, ev_tNot, ev_andV, ev_orV, ev_notV, ev_upper, ev_yes, ev_comp, wipeE, notOwn, List.all_cons, List.all_nil, ev_range1, ev_range2, ev_isq, ev_zip2, ev_zip3, ev_enum, optR_some, bind_ok, Sat_ok, Sat_bind, List.getElem?_cons_zero, List.getElem?_cons_succ, List.set_cons_zero, List.set_cons_succ, List.length_cons, List.length_nil, Bool.true_and, Bool.and_true, Bool.and_self, Bool.or_true, Bool.true_or, Bool.false_or, Bool.or_false, Bool.not_true, Bool.not_false, Bool.false_and, Bool.and_false, if_true, if_false, Bool.false_eq_true, reduceIte, reduceCtorEq, fits1000 (show 2 ≤ 1000000 by omega)]
        refine ⟨fits1000 (by rw [List.length_map]; omega), ds ++ [(d.1, gv)], _, _, by rw [List.length_append, hs]; rfl, ?_, hp2, by rw [List.map_append]; rfl⟩
        intro d' hd'
        rcases List.mem_append.mp hd' with hd' | hd'
        · exact hb d' hd'
        · rw [List.mem_singleton.mp hd']; exact ⟨z1, zg⟩
      refine SatS.seq (SatS.ite ?_)
      simp only [ev_var, ev_any, ev_c, ev_bin, ev_binF, ev_chain, ev_un, ev_cons, ev_nil, ev_tup, ev_disp, ev_lst, ev_glo, ev_callB, ev_callF, ev_call, ev_if, ev_sl, ev_oN, ev_oS, ev_rev, ev_isa, ev_tOf, ev_tAnd, ev_tOr, ev_tNot, ev_andV, ev_orV, ev_notV, ev_upper, ev_yes, ev_comp, wipeE, notOwn, List.all_cons, List.all_nil, ev_range1, ev_range2, ev_isq, ev_zip2, ev_zip3, ev_enum, optR_some, bind_ok, Sat_ok, Sat_bind, List.getElem?_cons_zero, List.getElem?_cons_succ, List.set_cons_zero, List.set_cons_succ, List.length_cons, List.length_nil, Bool.true_and, Bool.and_true, Bool.and_self, Bool.or_true, Bool.true_or, Bool.false_or, Bool.or_false, Bool.not_true, Bool.not_false, Bool.false_and, Bool.and_false, if_true, if_false, Bool.false_eq_true, reduceIte, reduceCtorEq]
      refine (sat_draw hp (by omega) (by omega)).imp ?_
      rintro _ g2 ⟨i, rfl, i0, i1, hp1⟩
      simp only [ev_var, ev_any, ev_c, ev_bin, ev_binF, ev_chain, ev_un, ev_cons, ev_nil, ev_tup, ev_disp, ev_lst, ev_glo, ev_callB, ev_callF, ev_call, ev_if, ev_sl, ev_oN, ev_oS, ev_rev, ev_isa, ev_tOf, ev_tAnd, ev_tOr, ev_tNot, ev_andV, ev_orV, ev_notV, ev_upper, ev_yes, ev_comp, wipeE, notOwn, List.all_cons, List.all_nil, ev_range1, ev_range2, ev_isq, ev_zip2, ev_zip3, ev_enum, optR_some, bind_ok, Sat_ok, Sat_bind, List.getElem?_cons_zero, List.getElem?_cons_succ, List.set_cons_zero, List.set_cons_succ, List.length_cons, List.length_nil, Bool.true_and, Bool.and_true, Bool.and_self, Bool.or_true, Bool.true_or, Bool.false_or, Bool.or_false, Bool.not_true, Bool.not_false, Bool.false_and, Bool.and_false, if_true, if_false, Bool.false_eq_true, reduceIte, reduceCtorEq, opAdd, opSub, opMul, opDiv, opMod, opNeg, opI, opLt, opLe, opGt, opGe, opEq, opNe, opEq_int, opIs, opIsnot, opIsB, isNonP, opIx, opLen, opTuple, opList, opInt, opAbs, opStr, opSum, opMax, opMin, opMM, opAny, opAll, opAA, asSeq, asLst, top, frSeq, kdP, isa, id_eq, Option.map_some, Option.bind_some]
      cases hi : (i == 0) with
      | false =>
        refine SatS.nil (fin d.2 g2 z2 (hp1.mono (by omega)))
      | true =>
        refine SatS.set ?_
        simp only [ev_var, ev_any, ev_c, ev_bin, ev_binF, ev_chain, ev_un, ev_cons, ev_nil, ev_tup, ev_disp, ev_lst, ev_glo, ev_callB, ev_callF, ev_call, ev_if, ev_sl, ev_oN, ev_oS, ev_rev, ev_isa, ev_tOf, ev_tAnd, ev_tOr, ev_tNot, ev_andV, ev_orV, ev_notV, ev_upper, ev_yes, ev_comp, wipeE, notOwn, List.all_cons, List.all_nil, ev_range1, ev_range2, ev_isq, ev_zip2, ev_zip3, ev_enum, optR_some, bind_ok, Sat_ok, Sat_bind, List.getElem?_cons_zero, List.getElem?_cons_succ, List.set_cons_zero, List.set_cons_succ, List.length_cons, List.length_nil, Bool.true_and, Bool.and_true, Bool.and_self, Bool.or_true, Bool.true_or, Bool.false_or, Bool.or_false, Bool.not_true, Bool.not_false, Bool.false_and, Bool.and_false, if_true, if_false, Bool.false_eq_true, reduceIte, reduceCtorEq, opAdd, opSub, opMul, opDiv, opMod, opNeg, opI, opLt, opLe, opGt, opGe, opEq, opNe, opEq_int, opIs, opIsnot, opIsB, isNonP, opIx, opLen, opTuple, opList, opInt, opAbs, opStr, opSum, opMax, opMin, opMM, opAny, opAll, opAA, asSeq, asLst, top, frSeq, kdP, isa, id_eq, Option.map_some, Option.bind_some]
        refine sat_comp (fun k2 acc g' => ∃ s : List Int, acc = s.map .int ∧ s.length = k2 ∧ (∀ x ∈ s, 0 ≤ x ∧ x ≤ 10) ∧ Pool p g' (B + 200 + 20 * k + 1 + k2)) ?_ ?_ ⟨[], rfl, rfl, by simp, hp1⟩
        · rintro k2 x acc g3 hx ⟨s, rfl, hs2, hb2, hp2⟩
          rw [List.getElem?_map] at hx
          cases hv : d.2[k2]? with
          | none => rw [hv] at hx; cases hx
          | some v =>
            rw [hv] at hx; cases hx
            have hk2 : k2 < n := by rw [← z2.len]; exact (List.getElem?_eq_some_iff.mp hv).1
            have hvb := z2.nn v (List.mem_of_getElem? hv)
            refine ⟨_, rfl, ?_⟩
            simp only [ev_var, ev_any, ev_c, ev_bin, ev_binF, ev_chain, ev_un, ev_cons, ev_nil, ev_tup, ev_disp, ev_lst, ev_glo, ev_callB, ev_callF, ev_call, ev_if, ev_sl, ev_oN, ev_oS, ev_rev, ev_isa, ev_tOf, ev_tAnd, ev_tOr, ev_tNot, ev_andV, ev_orV, ev_notV, ev_upper, ev_yes, ev_comp, wipeE, notOwn, List.all_cons, List.all_nil, ev_range1, ev_range2, ev_isq, ev_zip2, ev_zip3, ev_enum, optR_some, bind_ok, Sat_ok, Sat_bind, List.getElem?_cons_zero, List.getElem?_cons_succ, List.set_cons_zero, List.set_cons_succ, List.length_cons, List.length_nil, Bool.true_and, Bool.and_true, Bool.and_self, Bool.or_true, Bool.true_or, Bool.false_or, Bool.or_false, Bool.not_true, Bool.not_false, Bool.false_and, Bool.and_false, if_true, if_false, Bool.false_eq_true, reduceIte, reduceCtorEq]
            refine (sat_draw hp2 (by omega) (by omega)).imp ?_
            rintro _ g4 ⟨j, rfl, j0, j1, hp3⟩
            simp only [ev_var, ev_any, ev_c, ev_bin, ev_binF, ev_chain, ev_un, ev_cons, ev_nil, ev_tup, ev_disp, ev_lst, ev_glo, ev_callB, ev_callF, ev_call, ev_if, ev_sl, ev_oN, ev_oS, ev_rev, ev_isa, ev_tOf, ev_tAnd, ev_tOr, ev_tNot, ev_andV, ev_orV, ev_notV, ev_upper, ev_yes, ev_comp, wipeE, notOwn, List.all_cons, List.all_nil, ev_range1, ev_range2, ev_isq, ev_zip2, ev_zip3, ev_enum, optR_some, bind_ok, Sat_ok, Sat_bind, List.getElem?_cons_zero, List.getElem?_cons_succ, List.set_cons_zero, List.set_cons_succ, List.length_cons, List.length_nil, Bool.true_and, Bool.and_true, Bool.and_self, Bool.or_true, Bool.true_or, Bool.false_or, Bool.or_false, Bool.not_true, Bool.not_false, Bool.false_and, Bool.and_false, if_true, if_false, Bool.false_eq_true, reduceIte, reduceCtorEq, opAdd, opSub, opMul, opDiv, opMod, opNeg, opI, opLt, opLe, opGt, opGe, opEq, opNe, opEq_int, opIs, opIsnot, opIsB, isNonP, opIx, opLen, opTuple, opList, opInt, opAbs, opStr, opSum, opMax, opMin, opMM, opAny, opAll, opAA, asSeq, asLst, top, frSeq, kdP, isa, id_eq, Option.map_some, Option.bind_some]
            refine ⟨s ++ [_], by rw [List.map_append]; rfl, by rw [List.length_append, hs2]; rfl, ?_, hp3⟩
            intro x hx
            rcases List.mem_append.mp hx with hx | hx
            · exact hb2 x hx
            · rw [List.mem_singleton.mp hx]
              split <;> omega
        · rintro acc g3 ⟨s, rfl, hs2, hb2, hp2⟩
          rw [List.length_map, z2.len] at hs2 hp2
          exact fin s g3 ⟨hs2, hb2⟩ (hp2.mono (by omega))
  · rintro e g' ⟨ds, s4, s5, hs, hb, hp, rfl⟩
    rw [List.length_map, hns] at hs hp
    refine SatS.ret ?_
    simp only [ev_var, ev_any, ev_c, ev_bin, ev_binF, ev_chain, ev_un, ev_cons, ev_nil, ev_tup, ev_disp, ev_lst, ev_glo, ev_callB, ev_callF, ev_call, ev_if, ev_sl, ev_oN, ev_oS, ev_rev, ev_isa, ev_tOf, ev_tAnd, ev_tOr, ev_tNot, ev_andV, ev_orV, ev_notV, ev_upper, ev_yes, ev_comp, wipeE, notOwn, List.all_cons, List.all_nil, ev_range1, ev_range2, ev_isq, ev_zip2, ev_zip3, ev_enum, optR_some, bind_ok, Sat_ok, Sat_bind, List.getElem?_cons_zero, List.getElem?_cons_succ, List.set_cons_zero, List.set_cons_succ, List.length_cons, List.length_nil, Bool.true_and, Bool.and_true, Bool.and_self, Bool.or_true, Bool.true_or, Bool.false_or, Bool.or_false, Bool.not_true, Bool.not_false, Bool.false_and, Bool.and_false, if_true, if_false, Bool.false_eq_true, reduceIte, reduceCtorEq, opAdd, opSub, opMul, opDiv, opMod, opNeg, opI, opLt, opLe, opGt, opGe, opEq, opNe, opEq_int, opIs, opIsnot, opIsB, isNonP, opIx, opLen, opTuple, opList, opInt, opAbs, opStr, opSum, opMax, opMin, opMM, opAny, opAll, opAA, asSeq, asLst, top, frSeq, kdP, isa, id_eq, Option.map_some, Option.bind_some, fits1000 (show 2 ≤ 1000000 by omega)]
    exact ⟨ds, rfl, hs, hb, hp.mono (by omega)⟩
theorem sat_machine {p : PV} {g : G} {B n m : Nat} (h : Pool p g B) (hB : B ≤ 10000000) (n1 : 1 ≤ n) (hn : n ≤ 5) (hm : m ≤ 5) : Sat (F_law_machine [p, .int n, .int m] g) fun v g' => ∃ ds, v = netP n ds ∧ ds.length = m ∧ (∀ d ∈ ds, Side n d.1 ∧ Side n d.2) ∧ Pool p g' (B + 200) := by
  refine satFn rfl ?_
  show SatS (B_law_machine [.val p, .val (.int n), .val (.int m), .un, .un, .un, .un, .un] g) _ _
  refine SatS.seq (SatS.own ?_)
  simp only [ev_var, ev_any, ev_c, ev_bin, ev_binF, ev_chain, ev_un, ev_cons, ev_nil, ev_tup, ev_disp, ev_lst, ev_glo, ev_callB, ev_callF, ev_call, ev_if, ev_sl, ev_oN, ev_oS, ev_rev, ev_isa, ev_tOf, ev_tAnd, ev_tOr, ev_tNot, ev_andV, ev_orV, ev_notV, ev_upper, ev_yes, ev_comp, wipeE, notOwn, List.all_cons, List.all_nil, ev_range1, ev_range2, ev_isq, ev_zip2, ev_zip3, ev_enum, optR_some, bind_ok, Sat_ok, Sat_bind, List.getElem?_cons_zero, List.getElem?_cons_succ, List.set_cons_zero, List.set_cons_succ, List.length_cons, List.length_nil, Bool.true_and, Bool.and_true, Bool.and_self, Bool.or_true, Bool.true_or, Bool.false_or, Bool.or_false, Bool.not_true, Bool.not_false, Bool.false_and, Bool.and_false, if_true, if_false, Bool.false_eq_true, reduceIte, reduceCtorEq, fits1000 (show 0 ≤ 1000000 by omega)]
  refine SatS.seq (SatS.for_ ?_)
  simp only [ev_var, ev_any, ev_c, ev_bin, ev_binF, ev_chain, ev_un, ev_cons, ev_nil, ev_tup, ev_disp, ev_lst, ev_glo, ev_callB, ev_callF, ev_call, ev_if, ev_sl, ev_oN, ev_oS, ev_rev, ev_isa, ev_tOf, ev_tAnd, ev_tOr, ev_tNot, ev_andV, ev_orV, ev_notV, ev_upper, ev_yes, ev_comp, wipeE, notOwn, List.all_cons, List.all_nil, ev_range1, ev_range2, ev_isq, ev_zip2, ev_zip3, ev_enum, optR_some, bind_ok, Sat_ok, Sat_bind, List.getElem?_cons_zero, List.getElem?_cons_succ, List.set_cons_zero, List.set_cons_succ, List.length_cons, List.length_nil, Bool.true_and, Bool.and_true, Bool.and_self, Bool.or_true, Bool.true_or, Bool.false_or, Bool.or_false, Bool.not_true, Bool.not_false, Bool.false_and, Bool.and_false, if_true, if_false, Bool.false_eq_true, reduceIte, reduceCtorEq, opAdd, opSub, opMul, opDiv, opMod, opNeg, opI, opLt, opLe, opGt, opGe, opEq, opNe, opEq_int, opIs, opIsnot, opIsB, isNonP, opIx, opLen, opTuple, opList, opInt, opAbs, opStr, opSum, opMax, opMin, opMM, opAny, opAll, opAA, asSeq, asLst, top, frSeq, kdP, isa, id_eq, Option.map_some, Option.bind_some, rg1 (show (0 : Int) ≤ m by omega), rg2 (show (m : Int) ≤ 1000000 by omega)]
  refine sat_for (fun k e g' => ∃ (ds : List (List Int × List Int)) (s4 s5 s6 : SV), ds.length = k ∧ (∀ d ∈ ds, Side n d.1 ∧ Side n d.2) ∧ Pool p g' (B + 2 * k) ∧ e = [.val p, .val (.int n), .val (.int m), .own (.lst (ds.map dp)), s4, s5, s6, .un]) ?_ ?_ ⟨[], _, _, _, rfl, by simp, h, rfl⟩
  · rintro k x e g' hx ⟨ds, s4, s5, s6, hs, hb, hp, rfl⟩
    obtain ⟨rfl, hk, _⟩ := range_at hx
    refine ⟨_, rfl, ?_⟩
    refine SatS.seq (SatS.set ?_)
    simp only [ev_var, ev_any, ev_c, ev_bin, ev_binF, ev_chain, ev_un, ev_cons, ev_nil, ev_tup, ev_disp, ev_lst, ev_glo, ev_callB, ev_callF, ev_call, ev_if, ev_sl, ev_oN, ev_oS, ev_rev, ev_isa, ev_tOf, ev_tAnd, ev_tOr, ev_tNot, ev_andV, ev_orV, ev_notV, ev_upper, ev_yes, ev_comp, wipeE, notOwn, List.all_cons, List.all_nil, ev_range1, ev_range2, ev_isq, ev_zip2, ev_zip3, ev_enum, optR_some, bind_ok, Sat_ok, Sat_bind, List.getElem?_cons_zero, List.getElem?_cons_succ, List.set_cons_zero, List.set_cons_succ, List.length_cons, List.length_nil, Bool.true_and, Bool.and_true, Bool.and_self, Bool.or_true, Bool.true_or, Bool.false_or, Bool.or_false, Bool.not_true, Bool.not_false, Bool.false_and, Bool.and_false, if_true, if_false, Bool.false_eq_true, reduceIte, reduceCtorEq]
    refine (sat_draw hp (by omega) (by omega)).imp ?_
    rintro _ g1 ⟨a, rfl, a0, a1, hp1⟩
    refine SatS.seq (SatS.set ?_)
    simp only [ev_var, ev_any, ev_c, ev_bin, ev_binF, ev_chain, ev_un, ev_cons, ev_nil, ev_tup, ev_disp, ev_lst, ev_glo, ev_callB, ev_callF, ev_call, ev_if, ev_sl, ev_oN, ev_oS, ev_rev, ev_isa, ev_tOf, ev_tAnd, ev_tOr, ev_tNot, ev_andV, ev_orV, ev_notV, ev_upper, ev_yes, ev_comp, wipeE, notOwn, List.all_cons, List.all_nil, ev_range1, ev_range2, ev_isq, ev_zip2, ev_zip3, ev_enum, optR_some, bind_ok, Sat_ok, Sat_bind, List.getElem?_cons_zero, List.getElem?_cons_succ, List.set_cons_zero, List.set_cons_succ, List.length_cons, List.length_nil, Bool.true_and, Bool.and_true, Bool.and_self, Bool.or_true, Bool.true_or, Bool.false_or, Bool.or_false, Bool.not_true, Bool.not_false, Bool.false_and, Bool.and_false, if_true, if_false, Bool.false_eq_true, reduceIte, reduceCtorEq]
    refine (sat_draw hp1 (by omega) (by omega)).imp ?_
    rintro _ g2 ⟨b, rfl, b0, b1, hp2⟩
    refine SatS.append rfl ?_
    simp only [ev_var, ev_any, ev_c, ev_bin, ev_binF, ev_chain, ev_un, ev_cons, ev_nil, ev_tup, ev_disp, ev_lst, ev_glo, ev_callB, ev_callF, ev_call, ev_if, ev_sl, ev_oN, ev_oS, ev_rev, ev_isa, ev_tOf, ev_tAnd, ev_tOr, ev_tNot, ev_andV, ev_orV, ev_notV, ev_upper, ev_yes, ev_comp, wipeE, notOwn, List.all_cons, List.all_nil, ev_range1, ev_range2, ev_isq, ev_zip2, ev_zip3, ev_enum, optR_some, bind_ok, Sat_ok, Sat_bind, List.getElem?_cons_zero, List.getElem?_cons_succ, List.set_cons_zero, List.set_cons_succ, List.length_cons, List.length_nil, Bool.true_and, Bool.and_true, Bool.and_self, Bool.or_true, Bool.true_or, Bool.false_or, Bool.or_false, Bool.not_true, Bool.not_false, Bool.false_and, Bool.and_false, if_true, if_false, Bool.false_eq_true, reduceIte, reduceCtorEq, opAdd, opSub, opMul, opDiv, opMod, opNeg, opI, opLt, opLe, opGt, opGe, opEq, opNe, opEq_int, opIs, opIsnot, opIsB, isNonP, opIx, opLen, opTuple, opList, opInt, opAbs, opStr, opSum, opMax, opMin, opMM, opAny, opAll, opAA, asSeq, asLst, top, frSeq, kdP, isa, id_eq, Option.map_some, Option.bind_some, rg1 (show (0 : Int) ≤ n by omega), rg2 (show (n : Int) ≤ 1000000 by omega)]
    have one : ∀ (a : Int) (i : Nat) (e : Q.Env) (P : List PV → G → Prop), e[i]? = some (.val (.int a)) → i ≠ 7 → e.length = 8 → (∀ s : List Int, Side n s → P (s.map .int) g2) → Sat (compRun (.nm 7) tYes' (eCallB opInt (aCons (eBin opEq (eVar 7) (eVar i)) aNil)) e (rangeL 0 n) g2) P := by
      intro a i e P he hi7 hl hP
      refine sat_comp (fun k acc g' => g' = g2 ∧ ∃ s : List Int, acc = s.map .int ∧ s.length = k ∧ ∀ x ∈ s, 0 ≤ x ∧ x ≤ 10) ?_ ?_ ⟨rfl, [], rfl, rfl, by simp⟩
      · rintro k x acc g' hx ⟨rfl, s, rfl, hs, hb⟩
        obtain ⟨rfl, hk, _⟩ := range_at hx
        refine ⟨_, rfl, ?_⟩
        have e7 : (e.set 7 (.val (.int (k : Int))))[7]? = some (.val (.int (k : Int))) := List.getElem?_set_self (by omega)
        have ei : (e.set 7 (.val (.int (k : Int))))[i]? = some (.val (.int a)) := by rw [List.getElem?_set_ne (Ne.symm hi7)]; exact he
        simp only [ev_var, ev_any, ev_c, ev_bin, ev_binF, ev_chain, ev_un, ev_cons, ev_nil, ev_tup, ev_disp, ev_lst, ev_glo, ev_callB, ev_callF, ev_call, ev_if, ev_sl, ev_oN, ev_oS, ev_rev, ev_isa, ev_tOf, ev_tAnd, ev_tOr, ev_tNot, ev_andV, ev_orV, ev_notV, ev_upper, ev_yes, ev_comp, wipeE, notOwn, List.all_cons, List.all_nil, ev_range1, ev_range2, ev_isq, ev_zip2, ev_zip3, ev_enum, optR_some, bind_ok, Sat_ok, Sat_bind, List.getElem?_cons_zero, List.getElem?_cons_succ, List.set_cons_zero, List.set_cons_succ, List.length_cons, List.length_nil, Bool.true_and, Bool.and_true, Bool.and_self, Bool.or_true, Bool.true_or, Bool.false_or, Bool.or_false, Bool.not_true, Bool.not_false, Bool.false_and, Bool.and_false, if_true, if_false, Bool.false_eq_true, reduceIte, reduceCtorEq, opAdd, opSub, opMul, opDiv, opMod, opNeg, opI, opLt, opLe, opGt, opGe, opEq, opNe, opEq_int, opIs, opIsnot, opIsB, isNonP, opIx, opLen, opTuple, opList, opInt, opAbs, opStr, opSum, opMax, opMin, opMM, opAny, opAll, opAA, asSeq, asLst, top, frSeq, kdP, isa, id_eq, Option.map_some, Option.bind_some, e7, ei]
        refine ⟨trivial, s ++ [_], by rw [List.map_append]; rfl, by rw [List.length_append, hs]; rfl, ?_⟩
        intro x hx
        rcases List.mem_append.mp hx with hx | hx
        · exact hb x hx
        · rw [List.mem_singleton.mp hx]; split <;> omega
      · rintro acc g' ⟨rfl, s, rfl, hs, hb⟩
        rw [rangeN_len] at hs
        exact hP s ⟨hs, hb⟩
    refine one a 5 _ _ rfl (by omega) rfl fun s1 z1 => ?_
    refine one b 6 _ _ rfl (by omega) rfl fun s2 z2 => ?_
    simp only [ev_var, ev_any, ev_c, ev_bin, ev_binF, ev_chain, ev_un, ev_cons, ev_nil, ev_tup, ev_disp, ev_lst, ev_glo, ev_callB, ev_callF, ev_call, ev_if, ev_sl, ev_oN, ev_oS, ev_rev, ev_isa, ev_tOf, ev_tAnd, ev_tOr, ev_tNot, ev_andV, ev_orV, ev_notV, ev_upper, ev_yes, ev_comp, wipeE, notOwn, List.all_cons, List.all_nil, ev_range1, ev_range2, ev_isq, ev_zip2, ev_zip3, ev_enum, optR_some, bind_ok, Sat_ok, Sat_bind, List.getElem?_cons_zero, List.getElem?_cons_succ, List.set_cons_zero, List.set_cons_succ, List.length_cons, List.length_nil, Bool.true_and, Bool.and_true, Bool.and_self, Bool.or_true, Bool.true_or, Bool.false_or, Bool.or_false, Bool.not_true, Bool.not_false, Bool.false_and, Bool.and_false, if_true, if_false, Bool.false_eq_true, reduceIte, reduceCtorEq, opAdd, opSub, opMul, opDiv, opMod, opNeg, opI, opLt, opLe, opGt, opGe, opEq, opNe, opEq_int, opIs, opIsnot, opIsB, isNonP, opIx, opLen, opTuple, opList, opInt, opAbs, opStr, opSum, opMax, opMin, opMM, opAny, opAll, opAA, asSeq, asLst, top, frSeq, kdP, isa, id_eq, Option.map_some, Option.bind_some, fits1000 (show 2 ≤ 1000000 by omega)]
    refine ⟨fits1000 (by rw [List.length_map]; omega), ds ++ [(s1, s2)], _, _, _, by rw [List.length_append, hs]; rfl, ?_, hp2, by rw [List.map_append]; rfl⟩
    intro d hd
    rcases List.mem_append.mp hd with hd | hd
    · exact hb d hd
    · rw [List.mem_singleton.mp hd]; exact ⟨z1, z2⟩
  · rintro e g' ⟨ds, s4, s5, s6, hs, hb, hp, rfl⟩
    rw [rangeN_len] at hs hp
    refine SatS.ret ?_
    simp only [ev_var, ev_any, ev_c, ev_bin, ev_binF, ev_chain, ev_un, ev_cons, ev_nil, ev_tup, ev_disp, ev_lst, ev_glo, ev_callB, ev_callF, ev_call, ev_if, ev_sl, ev_oN, ev_oS, ev_rev, ev_isa, ev_tOf, ev_tAnd, ev_tOr, ev_tNot, ev_andV, ev_orV, ev_notV, ev_upper, ev_yes, ev_comp, wipeE, notOwn, List.all_cons, List.all_nil, ev_range1, ev_range2, ev_isq, ev_zip2, ev_zip3, ev_enum, optR_some, bind_ok, Sat_ok, Sat_bind, List.getElem?_cons_zero, List.getElem?_cons_succ, List.set_cons_zero, List.set_cons_succ, List.length_cons, List.length_nil, Bool.true_and, Bool.and_true, Bool.and_self, Bool.or_true, Bool.true_or, Bool.false_or, Bool.or_false, Bool.not_true, Bool.not_false, Bool.false_and, Bool.and_false, if_true, if_false, Bool.false_eq_true, reduceIte, reduceCtorEq, opAdd, opSub, opMul, opDiv, opMod, opNeg, opI, opLt, opLe, opGt, opGe, opEq, opNe, opEq_int, opIs, opIsnot, opIsB, isNonP, opIx, opLen, opTuple, opList, opInt, opAbs, opStr, opSum, opMax, opMin, opMM, opAny, opAll, opAA, asSeq, asLst, top, frSeq, kdP, isa, id_eq, Option.map_some, Option.bind_some, fits1000 (show 2 ≤ 1000000 by omega)]
    exact ⟨ds, rfl, hs, hb, hp.mono (by omega)⟩

/-- lists of the store, one behind another, beside a pool -/
structure Objs (n0 L K n : Nat) (k : Int) (g : G) : Prop where
  low : n0 < L
  at0 : g[n0]? = some (.lst [.int k])
  ob : ∀ i, i < K → ∃ s : List Int, g[L + i]? = some (.lst (s.map .int)) ∧ Side n s
theorem Objs.draw {n0 L K n : Nat} {k : Int} {g : G} (h : Objs n0 L K n k g) (k' : Int) : Objs n0 L K n k' (g.set n0 (.lst [.int k'])) := by
  refine ⟨h.low, List.getElem?_set_self (List.getElem?_eq_some_iff.mp h.at0).1, fun i hi => ?_⟩
  obtain ⟨s, h1, h2⟩ := h.ob i hi
  have := h.low
  exact ⟨s, by rw [List.getElem?_set_ne (by omega)]; exact h1, h2⟩
theorem Objs.put {n0 L K n : Nat} {k : Int} {g : G} (h : Objs n0 L K n k g) {j : Nat} (hj : j < K) {s : List Int} (hs : Side n s) : Objs n0 L K n k (g.set (L + j) (.lst (s.map .int))) := by
  have := h.low
  refine ⟨h.low, by rw [List.getElem?_set_ne (by omega)]; exact h.at0, fun i hi => ?_⟩
  obtain ⟨t, h1, h2⟩ := h.ob i hi
  by_cases z : i = j
  · subst z
    exact ⟨s, List.getElem?_set_self (List.getElem?_eq_some_iff.mp h1).1, hs⟩
  · exact ⟨t, by rw [List.getElem?_set_ne (by omega)]; exact h1, h2⟩
theorem side_set {n : Nat} {s : List Int} (h : Side n s) (j : Nat) {x : Int} (h0 : 0 ≤ x) (h1 : x ≤ 10) : Side n (s.set j x) := by
  refine ⟨by rw [List.length_set]; exact h.len, fun y hy => ?_⟩
  rcases List.mem_or_eq_of_mem_set hy with hy | hy
  · exact h.nn y hy
  · omega
theorem refsAt {L K j : Nat} (h : j < K) : atI ((List.range K).map fun i => PV.ref (L + i)) (j : Int) = some (.ref (L + j)) := by
  apply atI_nat
  rw [List.getElem?_map, List.getElem?_range h]; rfl
theorem refs_succ (L k : Nat) : ((List.range k).map fun i => PV.ref (L + i)) ++ [.ref (L + k)] = (List.range (k + 1)).map fun i => PV.ref (L + i) := by
  rw [List.range_succ, List.map_append]; rfl
theorem sat_graph {p : PV} {g : G} {B n m : Nat} (h : Pool p g B) (hB : B ≤ 10000000) (hn : n ≤ 5) (m1 : 1 ≤ m) (hm : m ≤ 5) : Sat (F_law_graph [p, .int n, .int m] g) fun v g' => ∃ ds, v = netP n ds ∧ ds.length = m ∧ (∀ d ∈ ds, Side n d.1 ∧ Side n d.2) ∧ Pool p g' (B + 200) := by
  obtain ⟨rs, n0, k0, rfl, h2, h3, h4, h5, h6⟩ := h.ex
  have hlow : n0 < g.length := (List.getElem?_eq_some_iff.mp h4).1
  have c1 : decide ((-1000 : Int) ≤ n) = true := decide_eq_true (by omega)
  have c2 : decide ((n : Int) ≤ 1000) = true := decide_eq_true (by omega)
  refine satFn rfl ?_
  show SatS (B_law_graph [.val _, .val (.int n), .val (.int m), .un, .un, .un, .un] g) _ _
  -- new lists of zeros
  have mk : ∀ (e : Q.Env) (g0 : G) (P : List PV → G → Prop), e[1]? = some (.val (.int n)) → e.length = 7 → Objs n0 g.length (g0.length - g.length) n k0 g0 → g.length ≤ g0.length →
      (∀ g1, g1.length = g0.length + m → Objs n0 g.length (g1.length - g.length) n k0 g1 → P ((List.range m).map fun i => .ref (g0.length + i)) g1) → Sat (compRun (.nm 6) tYes' (eGlo (eBinF opMulL (eLst (eDisp (aCons (eC (.int 0)) aNil))) (eVar 1))) e (rangeL 0 m) g0) P := by
    intro e g0 P he hl ho hle hP
    refine sat_comp (fun k acc g' => acc = ((List.range k).map fun i => PV.ref (g0.length + i)) ∧ g'.length = g0.length + k ∧ Objs n0 g.length (g'.length - g.length) n k0 g') ?_ ?_ ⟨rfl, rfl, ho⟩
    · rintro k x acc g' hx ⟨rfl, hl', ho'⟩
      obtain ⟨rfl, hk, _⟩ := range_at hx
      refine ⟨_, rfl, ?_⟩
      have e1 : (e.set 6 (.val (.int (k : Int))))[1]? = some (.val (.int n)) := by rw [List.getElem?_set_ne (by omega)]; exact he
      simp only [ev_var, ev_any, ev_c, ev_bin, ev_binF, ev_chain, ev_un, ev_cons, ev_nil, ev_tup, ev_disp, ev_lst, ev_glo, ev_callB, ev_callF, ev_call, ev_if, ev_sl, ev_oN, ev_oS, ev_rev, ev_isa, ev_tOf, ev_tAnd, ev_tOr, ev_tNot, ev_andV, ev_orV, ev_notV, ev_upper, ev_yes, ev_comp, wipeE, notOwn, List.all_cons, List.all_nil, ev_range1, ev_range2, ev_isq, ev_zip2, ev_zip3, ev_enum, optR_some, bind_ok, Sat_ok, Sat_bind, List.getElem?_cons_zero, List.getElem?_cons_succ, List.set_cons_zero, List.set_cons_succ, List.length_cons, List.length_nil, Bool.true_and, Bool.and_true, Bool.and_self, Bool.or_true, Bool.true_or, Bool.false_or, Bool.or_false, Bool.not_true, Bool.not_false, Bool.false_and, Bool.and_false, if_true, if_false, Bool.false_eq_true, reduceIte, reduceCtorEq, opAdd, opSub, opMul, opDiv, opMod, opNeg, opI, opLt, opLe, opGt, opGe, opEq, opNe, opEq_int, opIs, opIsnot, opIsB, isNonP, opIx, opLen, opTuple, opList, opInt, opAbs, opStr, opSum, opMax, opMin, opMM, opAny, opAll, opAA, asSeq, asLst, top, frSeq, kdP, isa, id_eq, Option.map_some, Option.bind_some, opMulL, e1, c1, c2, fits1000 (show 1 ≤ 1000000 by omega), show Nat.ble 1 1000 = true from rfl, Int.toNat_natCast, rep_zero]
      refine ⟨by rw [hl', refs_succ], by rw [List.length_append, hl']; simp; omega, ho'.low, ?_, fun i hi => ?_⟩
      · rw [List.getElem?_append_left (List.getElem?_eq_some_iff.mp ho'.at0).1]; exact ho'.at0
      · rw [List.length_append, List.length_singleton] at hi
        by_cases z : i < g'.length - g.length
        · obtain ⟨s, q1, q2⟩ := ho'.ob i z
          exact ⟨s, by rw [List.getElem?_append_left (List.getElem?_eq_some_iff.mp q1).1]; exact q1, q2⟩
        · have ei : g.length + i = g'.length := by omega
          refine ⟨List.replicate n 0, ?_, side_zero n⟩
          rw [ei, List.getElem?_append_right (Nat.le_refl _), Nat.sub_self]; rfl
    · rintro acc g' ⟨rfl, hl', ho'⟩
      rw [rangeN_len] at hl' ⊢
      exact hP g' hl' ho'
  refine SatS.seq (SatS.set ?_)
  simp only [ev_var, ev_any, ev_c, ev_bin, ev_binF, ev_chain, ev_un, ev_cons, ev_nil, ev_tup, ev_disp, ev_lst, ev_glo, ev_callB, ev_callF, ev_call, ev_if, ev_sl, ev_oN, ev_oS, ev_rev, ev_isa, ev_tOf, ev_tAnd, ev_tOr, ev_tNot, ev_andV, ev_orV, ev_notV, ev_upper, ev_yes, ev_comp, wipeE, notOwn, List.all_cons, List.all_nil, ev_range1, ev_range2, ev_isq, ev_zip2, ev_zip3, ev_enum, optR_some, bind_ok, Sat_ok, Sat_bind, List.getElem?_cons_zero, List.getElem?_cons_succ, List.set_cons_zero, List.set_cons_succ, List.length_cons, List.length_nil, Bool.true_and, Bool.and_true, Bool.and_self, Bool.or_true, Bool.true_or, Bool.false_or, Bool.or_false, Bool.not_true, Bool.not_false, Bool.false_and, Bool.and_false, if_true, if_false, Bool.false_eq_true, reduceIte, reduceCtorEq, rg1 (show (0 : Int) ≤ m by omega), rg2 (show (m : Int) ≤ 1000000 by omega)]
  refine mk _ g _ rfl rfl ⟨hlow, h4, fun i hi => by omega⟩ (Nat.le_refl _) fun g1 hl1 ho1 => ?_
  refine SatS.seq (SatS.set ?_)
  simp only [ev_var, ev_any, ev_c, ev_bin, ev_binF, ev_chain, ev_un, ev_cons, ev_nil, ev_tup, ev_disp, ev_lst, ev_glo, ev_callB, ev_callF, ev_call, ev_if, ev_sl, ev_oN, ev_oS, ev_rev, ev_isa, ev_tOf, ev_tAnd, ev_tOr, ev_tNot, ev_andV, ev_orV, ev_notV, ev_upper, ev_yes, ev_comp, wipeE, notOwn, List.all_cons, List.all_nil, ev_range1, ev_range2, ev_isq, ev_zip2, ev_zip3, ev_enum, optR_some, bind_ok, Sat_ok, Sat_bind, List.getElem?_cons_zero, List.getElem?_cons_succ, List.set_cons_zero, List.set_cons_succ, List.length_cons, List.length_nil, Bool.true_and, Bool.and_true, Bool.and_self, Bool.or_true, Bool.true_or, Bool.false_or, Bool.or_false, Bool.not_true, Bool.not_false, Bool.false_and, Bool.and_false, if_true, if_false, Bool.false_eq_true, reduceIte, reduceCtorEq, rg1 (show (0 : Int) ≤ m by omega), rg2 (show (m : Int) ≤ 1000000 by omega)]
  refine mk _ g1 _ rfl rfl ho1 (by omega) fun g2 hl2 ho2 => ?_
  have hK : g2.length - g.length = m + m := by omega
  rw [hK] at ho2
  refine SatS.seq (SatS.for_ ?_)
  simp only [ev_var, ev_any, ev_c, ev_bin, ev_binF, ev_chain, ev_un, ev_cons, ev_nil, ev_tup, ev_disp, ev_lst, ev_glo, ev_callB, ev_callF, ev_call, ev_if, ev_sl, ev_oN, ev_oS, ev_rev, ev_isa, ev_tOf, ev_tAnd, ev_tOr, ev_tNot, ev_andV, ev_orV, ev_notV, ev_upper, ev_yes, ev_comp, wipeE, notOwn, List.all_cons, List.all_nil, ev_range1, ev_range2, ev_isq, ev_zip2, ev_zip3, ev_enum, optR_some, bind_ok, Sat_ok, Sat_bind, List.getElem?_cons_zero, List.getElem?_cons_succ, List.set_cons_zero, List.set_cons_succ, List.length_cons, List.length_nil, Bool.true_and, Bool.and_true, Bool.and_self, Bool.or_true, Bool.true_or, Bool.false_or, Bool.or_false, Bool.not_true, Bool.not_false, Bool.false_and, Bool.and_false, if_true, if_false, Bool.false_eq_true, reduceIte, reduceCtorEq, rg1 (show (0 : Int) ≤ n by omega), rg2 (show (n : Int) ≤ 1000000 by omega)]
  refine sat_for (fun k e g' => ∃ (c : Int) (s5 : SV), 0 ≤ c ∧ c ≤ k0 + 2 * k ∧ Objs n0 g.length (m + m) n c g' ∧ e = [.val (.lst [.lst (rs.map .int), .ref n0]), .val (.int n), .val (.int m), .val (.lst ((List.range m).map fun i => .ref (g.length + i))), .val (.lst ((List.range m).map fun i => .ref (g1.length + i))), s5, .un]) ?_ ?_ ⟨k0, _, h5, by omega, ho2, rfl⟩
  · rintro k x e g' hx ⟨c, s5, hc0, hc1, ho, rfl⟩
    obtain ⟨rfl, hk, hk'⟩ := range_at hx
    rw [Int.toNat_natCast] at hk'
    refine ⟨_, rfl, ?_⟩
    refine SatS.seq (SatS.setG ?_)
    simp only [ev_var, ev_any, ev_c, ev_bin, ev_binF, ev_chain, ev_un, ev_cons, ev_nil, ev_tup, ev_disp, ev_lst, ev_glo, ev_callB, ev_callF, ev_call, ev_if, ev_sl, ev_oN, ev_oS, ev_rev, ev_isa, ev_tOf, ev_tAnd, ev_tOr, ev_tNot, ev_andV, ev_orV, ev_notV, ev_upper, ev_yes, ev_comp, wipeE, notOwn, List.all_cons, List.all_nil, ev_range1, ev_range2, ev_isq, ev_zip2, ev_zip3, ev_enum, optR_some, bind_ok, Sat_ok, Sat_bind, List.getElem?_cons_zero, List.getElem?_cons_succ, List.set_cons_zero, List.set_cons_succ, List.length_cons, List.length_nil, Bool.true_and, Bool.and_true, Bool.and_self, Bool.or_true, Bool.true_or, Bool.false_or, Bool.or_false, Bool.not_true, Bool.not_false, Bool.false_and, Bool.and_false, if_true, if_false, Bool.false_eq_true, reduceIte, reduceCtorEq]
    refine (draw_eq h2 h3 ho.at0 hc0 (by omega) (by omega)).imp ?_
    rintro _ _ ⟨i, rfl, i0, i1, rfl⟩
    obtain ⟨i, rfl⟩ := nn_nat i0
    have hi : i < m := by omega
    have ho3 := ho.draw (c + 1)
    simp only [ev_var, ev_any, ev_c, ev_bin, ev_binF, ev_chain, ev_un, ev_cons, ev_nil, ev_tup, ev_disp, ev_lst, ev_glo, ev_callB, ev_callF, ev_call, ev_if, ev_sl, ev_oN, ev_oS, ev_rev, ev_isa, ev_tOf, ev_tAnd, ev_tOr, ev_tNot, ev_andV, ev_orV, ev_notV, ev_upper, ev_yes, ev_comp, wipeE, notOwn, List.all_cons, List.all_nil, ev_range1, ev_range2, ev_isq, ev_zip2, ev_zip3, ev_enum, optR_some, bind_ok, Sat_ok, Sat_bind, List.getElem?_cons_zero, List.getElem?_cons_succ, List.set_cons_zero, List.set_cons_succ, List.length_cons, List.length_nil, Bool.true_and, Bool.and_true, Bool.and_self, Bool.or_true, Bool.true_or, Bool.false_or, Bool.or_false, Bool.not_true, Bool.not_false, Bool.false_and, Bool.and_false, if_true, if_false, Bool.false_eq_true, reduceIte, reduceCtorEq, opAdd, opSub, opMul, opDiv, opMod, opNeg, opI, opLt, opLe, opGt, opGe, opEq, opNe, opEq_int, opIs, opIsnot, opIsB, isNonP, opIx, opLen, opTuple, opList, opInt, opAbs, opStr, opSum, opMax, opMin, opMM, opAny, opAll, opAA, asSeq, asLst, top, frSeq, kdP, isa, id_eq, Option.map_some, Option.bind_some, refsAt (L := g1.length) hi]
    have ei : g1.length + i = g.length + (m + i) := by omega
    rw [ei]
    obtain ⟨s, q1, q2⟩ := ho3.ob (m + i) (by omega)
    refine ⟨_, k, _, k, rfl, rfl, q1, by rw [List.length_map, q2.len]; exact ixN_nat hk', ?_⟩
    rw [set_map]
    have ho4 := ho3.put (j := m + i) (by omega) (side_set q2 k (x := 1) (by omega) (by omega))
    refine SatS.setG ?_
    simp only [ev_var, ev_any, ev_c, ev_bin, ev_binF, ev_chain, ev_un, ev_cons, ev_nil, ev_tup, ev_disp, ev_lst, ev_glo, ev_callB, ev_callF, ev_call, ev_if, ev_sl, ev_oN, ev_oS, ev_rev, ev_isa, ev_tOf, ev_tAnd, ev_tOr, ev_tNot, ev_andV, ev_orV, ev_notV, ev_upper, ev_yes, ev_comp, wipeE, notOwn, List.all_cons, List.all_nil, ev_range1, ev_range2, ev_isq, ev_zip2, ev_zip3, ev_enum, optR_some, bind_ok, Sat_ok, Sat_bind, List.getElem?_cons_zero, List.getElem?_cons_succ, List.set_cons_zero, List.set_cons_succ, List.length_cons, List.length_nil, Bool.true_and, Bool.and_true, Bool.and_self, Bool.or_true, Bool.true_or, Bool.false_or, Bool.or_false, Bool.not_true, Bool.not_false, Bool.false_and, Bool.and_false, if_true, if_false, Bool.false_eq_true, reduceIte, reduceCtorEq]
    refine (draw_eq h2 h3 ho4.at0 (by omega) (by omega) (by omega)).imp ?_
    rintro _ _ ⟨j, rfl, j0, j1, rfl⟩
    obtain ⟨j, rfl⟩ := nn_nat j0
    have hj : j < m := by omega
    have ho5 := ho4.draw (c + 1 + 1)
    simp only [ev_var, ev_any, ev_c, ev_bin, ev_binF, ev_chain, ev_un, ev_cons, ev_nil, ev_tup, ev_disp, ev_lst, ev_glo, ev_callB, ev_callF, ev_call, ev_if, ev_sl, ev_oN, ev_oS, ev_rev, ev_isa, ev_tOf, ev_tAnd, ev_tOr, ev_tNot, ev_andV, ev_orV, ev_notV, ev_upper, ev_yes, ev_comp, wipeE, notOwn, List.all_cons, List.all_nil, ev_range1, ev_range2, ev_isq, ev_zip2, ev_zip3, ev_enum, optR_some, bind_ok, Sat_ok, Sat_bind, List.getElem?_cons_zero, List.getElem?_cons_succ, List.set_cons_zero, List.set_cons_succ, List.length_cons, List.length_nil, Bool.true_and, Bool.and_true, Bool.and_self, Bool.or_true, Bool.true_or, Bool.false_or, Bool.or_false, Bool.not_true, Bool.not_false, Bool.false_and, Bool.and_false, if_true, if_false, Bool.false_eq_true, reduceIte, reduceCtorEq, opAdd, opSub, opMul, opDiv, opMod, opNeg, opI, opLt, opLe, opGt, opGe, opEq, opNe, opEq_int, opIs, opIsnot, opIsB, isNonP, opIx, opLen, opTuple, opList, opInt, opAbs, opStr, opSum, opMax, opMin, opMM, opAny, opAll, opAA, asSeq, asLst, top, frSeq, kdP, isa, id_eq, Option.map_some, Option.bind_some, refsAt (L := g.length) hj]
    obtain ⟨t, r1, r2⟩ := ho5.ob j (by omega)
    refine ⟨_, k, _, k, rfl, rfl, r1, by rw [List.length_map, r2.len]; exact ixN_nat hk', ?_⟩
    rw [set_map]
    exact ⟨c + 1 + 1, _, by omega, by omega, ho5.put (j := j) (by omega) (side_set r2 k (x := 1) (by omega) (by omega)), rfl⟩
  · rintro e g' ⟨c, s5, hc0, hc1, ho, rfl⟩
    rw [rangeN_len] at hc1
    refine SatS.ret ?_
    simp only [ev_var, ev_any, ev_c, ev_bin, ev_binF, ev_chain, ev_un, ev_cons, ev_nil, ev_tup, ev_disp, ev_lst, ev_glo, ev_callB, ev_callF, ev_call, ev_if, ev_sl, ev_oN, ev_oS, ev_rev, ev_isa, ev_tOf, ev_tAnd, ev_tOr, ev_tNot, ev_andV, ev_orV, ev_notV, ev_upper, ev_yes, ev_comp, wipeE, notOwn, List.all_cons, List.all_nil, ev_range1, ev_range2, ev_isq, ev_zip2, ev_zip3, ev_enum, optR_some, bind_ok, Sat_ok, Sat_bind, List.getElem?_cons_zero, List.getElem?_cons_succ, List.set_cons_zero, List.set_cons_succ, List.length_cons, List.length_nil, Bool.true_and, Bool.and_true, Bool.and_self, Bool.or_true, Bool.true_or, Bool.false_or, Bool.or_false, Bool.not_true, Bool.not_false, Bool.false_and, Bool.and_false, if_true, if_false, Bool.false_eq_true, reduceIte, reduceCtorEq, rg1 (show (0 : Int) ≤ m by omega), rg2 (show (m : Int) ≤ 1000000 by omega)]
    refine sat_comp (fun k acc g3 => g3 = g' ∧ ∃ ds : List (List Int × List Int), acc = ds.map dp ∧ ds.length = k ∧ ∀ d ∈ ds, Side n d.1 ∧ Side n d.2) ?_ ?_ ⟨rfl, [], rfl, rfl, by simp⟩
    · rintro k x acc g3 hx ⟨rfl, ds, rfl, hs, hb⟩
      obtain ⟨rfl, hk, hk'⟩ := range_at hx
      rw [Int.toNat_natCast] at hk'
      refine ⟨_, rfl, ?_⟩
      obtain ⟨s, q1, q2⟩ := ho.ob k (by omega)
      obtain ⟨t, r1, r2⟩ := ho.ob (m + k) (by omega)
      have ei : g1.length + k = g.length + (m + k) := by omega
      simp only [ev_var, ev_any, ev_c, ev_bin, ev_binF, ev_chain, ev_un, ev_cons, ev_nil, ev_tup, ev_disp, ev_lst, ev_glo, ev_callB, ev_callF, ev_call, ev_if, ev_sl, ev_oN, ev_oS, ev_rev, ev_isa, ev_tOf, ev_tAnd, ev_tOr, ev_tNot, ev_andV, ev_orV, ev_notV, ev_upper, ev_yes, ev_comp, wipeE, notOwn, List.all_cons, List.all_nil, ev_range1, ev_range2, ev_isq, ev_zip2, ev_zip3, ev_enum, optR_some, bind_ok, Sat_ok, Sat_bind, List.getElem?_cons_zero, List.getElem?_cons_succ, List.set_cons_zero, List.set_cons_succ, List.length_cons, List.length_nil, Bool.true_and, Bool.and_true, Bool.and_self, Bool.or_true, Bool.true_or, Bool.false_or, Bool.or_false, Bool.not_true, Bool.not_false, Bool.false_and, Bool.and_false, if_true, if_false, Bool.false_eq_true, reduceIte, reduceCtorEq, opAdd, opSub, opMul, opDiv, opMod, opNeg, opI, opLt, opLe, opGt, opGe, opEq, opNe, opEq_int, opIs, opIsnot, opIsB, isNonP, opIx, opLen, opTuple, opList, opInt, opAbs, opStr, opSum, opMax, opMin, opMM, opAny, opAll, opAA, asSeq, asLst, top, frSeq, kdP, isa, id_eq, Option.map_some, Option.bind_some, refsAt (L := g.length) hk', refsAt (L := g1.length) hk', ei, q1, r1, fits1000 (show 2 ≤ 1000000 by omega)]
      refine ⟨trivial, ds ++ [(s, t)], by rw [List.map_append]; rfl, by rw [List.length_append, hs]; rfl, ?_⟩
      intro d hd
      rcases List.mem_append.mp hd with hd | hd
      · exact hb d hd
      · rw [List.mem_singleton.mp hd]; exact ⟨q2, r2⟩
    · rintro acc g3 ⟨rfl, ds, rfl, hs, hb⟩
      rw [rangeN_len] at hs
      simp only [ev_var, ev_any, ev_c, ev_bin, ev_binF, ev_chain, ev_un, ev_cons, ev_nil, ev_tup, ev_disp, ev_lst, ev_glo, ev_callB, ev_callF, ev_call, ev_if, ev_sl, ev_oN, ev_oS, ev_rev, ev_isa, ev_tOf, ev_tAnd, ev_tOr, ev_tNot, ev_andV, ev_orV, ev_notV, ev_upper, ev_yes, ev_comp, wipeE, notOwn, List.all_cons, List.all_nil, ev_range1, ev_range2, ev_isq, ev_zip2, ev_zip3, ev_enum, optR_some, bind_ok, Sat_ok, Sat_bind, List.getElem?_cons_zero, List.getElem?_cons_succ, List.set_cons_zero, List.set_cons_succ, List.length_cons, List.length_nil, Bool.true_and, Bool.and_true, Bool.and_self, Bool.or_true, Bool.true_or, Bool.false_or, Bool.or_false, Bool.not_true, Bool.not_false, Bool.false_and, Bool.and_false, if_true, if_false, Bool.false_eq_true, reduceIte, reduceCtorEq, opAdd, opSub, opMul, opDiv, opMod, opNeg, opI, opLt, opLe, opGt, opGe, opEq, opNe, opEq_int, opIs, opIsnot, opIsB, isNonP, opIx, opLen, opTuple, opList, opInt, opAbs, opStr, opSum, opMax, opMin, opMM, opAny, opAll, opAA, asSeq, asLst, top, frSeq, kdP, isa, id_eq, Option.map_some, Option.bind_some, fits1000 (show 2 ≤ 1000000 by omega)]
      exact ⟨ds, rfl, hs, hb, rs, n0, c, rfl, h2, h3, ho.at0, hc0, by omega⟩
theorem sat_net {p : PV} {g : G} {B : Nat} (h : Pool p g B) (hB : B ≤ 1000000) : Sat (F_law_net [p] g) fun v g' => ∃ n ds, v = netP n ds ∧ NetOk n ds ∧ Pool p g' (B + 500) := by
  refine satFn rfl ?_
  show SatS (B_law_net [.val p, .un, .un, .un] g) _ _
  refine SatS.seq (SatS.set ?_)
  simp only [ev_var, ev_any, ev_c, ev_bin, ev_binF, ev_chain, ev_un, ev_cons, ev_nil, ev_tup, ev_disp, ev_lst, ev_glo, ev_callB, ev_callF, ev_call, ev_if, ev_sl, ev_oN, ev_oS, ev_rev, ev_isa, ev_tOf, ev_tAnd, ev_tOr, ev_tNot, ev_andV, ev_orV, ev_notV, ev_upper, ev_yes, ev_comp, wipeE, notOwn, List.all_cons, List.all_nil, ev_range1, ev_range2, ev_isq, ev_zip2, ev_zip3, ev_enum, optR_some, bind_ok, Sat_ok, Sat_bind, List.getElem?_cons_zero, List.getElem?_cons_succ, List.set_cons_zero, List.set_cons_succ, List.length_cons, List.length_nil, Bool.true_and, Bool.and_true, Bool.and_self, Bool.or_true, Bool.true_or, Bool.false_or, Bool.or_false, Bool.not_true, Bool.not_false, Bool.false_and, Bool.and_false, if_true, if_false, Bool.false_eq_true, reduceIte, reduceCtorEq]
  refine (sat_draw h (by omega) (by omega)).imp ?_
  rintro _ g1 ⟨a, rfl, a0, a1, hp1⟩
  obtain ⟨n, hn⟩ := nn_nat (show 0 ≤ 1 + a by omega)
  simp only [ev_var, ev_any, ev_c, ev_bin, ev_binF, ev_chain, ev_un, ev_cons, ev_nil, ev_tup, ev_disp, ev_lst, ev_glo, ev_callB, ev_callF, ev_call, ev_if, ev_sl, ev_oN, ev_oS, ev_rev, ev_isa, ev_tOf, ev_tAnd, ev_tOr, ev_tNot, ev_andV, ev_orV, ev_notV, ev_upper, ev_yes, ev_comp, wipeE, notOwn, List.all_cons, List.all_nil, ev_range1, ev_range2, ev_isq, ev_zip2, ev_zip3, ev_enum, optR_some, bind_ok, Sat_ok, Sat_bind, List.getElem?_cons_zero, List.getElem?_cons_succ, List.set_cons_zero, List.set_cons_succ, List.length_cons, List.length_nil, Bool.true_and, Bool.and_true, Bool.and_self, Bool.or_true, Bool.true_or, Bool.false_or, Bool.or_false, Bool.not_true, Bool.not_false, Bool.false_and, Bool.and_false, if_true, if_false, Bool.false_eq_true, reduceIte, reduceCtorEq, opAdd, opSub, opMul, opDiv, opMod, opNeg, opI, opLt, opLe, opGt, opGe, opEq, opNe, opEq_int, opIs, opIsnot, opIsB, isNonP, opIx, opLen, opTuple, opList, opInt, opAbs, opStr, opSum, opMax, opMin, opMM, opAny, opAll, opAA, asSeq, asLst, top, frSeq, kdP, isa, id_eq, Option.map_some, Option.bind_some, hn]
  refine SatS.seq (SatS.set ?_)
  simp only [ev_var, ev_any, ev_c, ev_bin, ev_binF, ev_chain, ev_un, ev_cons, ev_nil, ev_tup, ev_disp, ev_lst, ev_glo, ev_callB, ev_callF, ev_call, ev_if, ev_sl, ev_oN, ev_oS, ev_rev, ev_isa, ev_tOf, ev_tAnd, ev_tOr, ev_tNot, ev_andV, ev_orV, ev_notV, ev_upper, ev_yes, ev_comp, wipeE, notOwn, List.all_cons, List.all_nil, ev_range1, ev_range2, ev_isq, ev_zip2, ev_zip3, ev_enum, optR_some, bind_ok, Sat_ok, Sat_bind, List.getElem?_cons_zero, List.getElem?_cons_succ, List.set_cons_zero, List.set_cons_succ, List.length_cons, List.length_nil, Bool.true_and, Bool.and_true, Bool.and_self, Bool.or_true, Bool.true_or, Bool.false_or, Bool.or_false, Bool.not_true, Bool.not_false, Bool.false_and, Bool.and_false, if_true, if_false, Bool.false_eq_true, reduceIte, reduceCtorEq]
  refine (sat_draw hp1 (by omega) (by omega)).imp ?_
  rintro _ g2 ⟨b, rfl, b0, b1, hp2⟩
  obtain ⟨m, hm⟩ := nn_nat (show 0 ≤ 1 + b by omega)
  simp only [ev_var, ev_any, ev_c, ev_bin, ev_binF, ev_chain, ev_un, ev_cons, ev_nil, ev_tup, ev_disp, ev_lst, ev_glo, ev_callB, ev_callF, ev_call, ev_if, ev_sl, ev_oN, ev_oS, ev_rev, ev_isa, ev_tOf, ev_tAnd, ev_tOr, ev_tNot, ev_andV, ev_orV, ev_notV, ev_upper, ev_yes, ev_comp, wipeE, notOwn, List.all_cons, List.all_nil, ev_range1, ev_range2, ev_isq, ev_zip2, ev_zip3, ev_enum, optR_some, bind_ok, Sat_ok, Sat_bind, List.getElem?_cons_zero, List.getElem?_cons_succ, List.set_cons_zero, List.set_cons_succ, List.length_cons, List.length_nil, Bool.true_and, Bool.and_true, Bool.and_self, Bool.or_true, Bool.true_or, Bool.false_or, Bool.or_false, Bool.not_true, Bool.not_false, Bool.false_and, Bool.and_false, if_true, if_false, Bool.false_eq_true, reduceIte, reduceCtorEq, opAdd, opSub, opMul, opDiv, opMod, opNeg, opI, opLt, opLe, opGt, opGe, opEq, opNe, opEq_int, opIs, opIsnot, opIsB, isNonP, opIx, opLen, opTuple, opList, opInt, opAbs, opStr, opSum, opMax, opMin, opMM, opAny, opAll, opAA, asSeq, asLst, top, frSeq, kdP, isa, id_eq, Option.map_some, Option.bind_some, hm]
  refine SatS.seq (SatS.set ?_)
  simp only [ev_var, ev_any, ev_c, ev_bin, ev_binF, ev_chain, ev_un, ev_cons, ev_nil, ev_tup, ev_disp, ev_lst, ev_glo, ev_callB, ev_callF, ev_call, ev_if, ev_sl, ev_oN, ev_oS, ev_rev, ev_isa, ev_tOf, ev_tAnd, ev_tOr, ev_tNot, ev_andV, ev_orV, ev_notV, ev_upper, ev_yes, ev_comp, wipeE, notOwn, List.all_cons, List.all_nil, ev_range1, ev_range2, ev_isq, ev_zip2, ev_zip3, ev_enum, optR_some, bind_ok, Sat_ok, Sat_bind, List.getElem?_cons_zero, List.getElem?_cons_succ, List.set_cons_zero, List.set_cons_succ, List.length_cons, List.length_nil, Bool.true_and, Bool.and_true, Bool.and_self, Bool.or_true, Bool.true_or, Bool.false_or, Bool.or_false, Bool.not_true, Bool.not_false, Bool.false_and, Bool.and_false, if_true, if_false, Bool.false_eq_true, reduceIte, reduceCtorEq]
  refine (sat_draw hp2 (by omega) (by omega)).imp ?_
  rintro _ g3 ⟨w, rfl, w0, w1, hp3⟩
  have n1 : 1 ≤ n := by omega
  have n5 : n ≤ 5 := by omega
  have m1 : 1 ≤ m := by omega
  have m5 : m ≤ 5 := by omega
  have fin : ∀ (v : PV) (g' : G) (C : Nat), C ≤ B + 500 → (∃ ds, v = netP n ds ∧ ds.length = m ∧ (∀ d ∈ ds, Side n d.1 ∧ Side n d.2) ∧ Pool p g' C) → ∃ n ds, v = netP n ds ∧ NetOk n ds ∧ Pool p g' (B + 500) := by
    rintro v g' C hC ⟨ds, rfl, hl, hd, hp⟩
    exact ⟨n, ds, rfl, ⟨n1, n5, by omega, by omega, fun d h => (hd d h).1, fun d h => (hd d h).2⟩, hp.mono hC⟩
  refine SatS.seq (SatS.ite ?_)
  simp only [ev_var, ev_any, ev_c, ev_bin, ev_binF, ev_chain, ev_un, ev_cons, ev_nil, ev_tup, ev_disp, ev_lst, ev_glo, ev_callB, ev_callF, ev_call, ev_if, ev_sl, ev_oN, ev_oS, ev_rev, ev_isa, ev_tOf, ev_tAnd, ev_tOr, ev_tNot, ev_andV, ev_orV, ev_notV, ev_upper, ev_yes, ev_comp, wipeE, notOwn, List.all_cons, List.all_nil, ev_range1, ev_range2, ev_isq, ev_zip2, ev_zip3, ev_enum, optR_some, bind_ok, Sat_ok, Sat_bind, List.getElem?_cons_zero, List.getElem?_cons_succ, List.set_cons_zero, List.set_cons_succ, List.length_cons, List.length_nil, Bool.true_and, Bool.and_true, Bool.and_self, Bool.or_true, Bool.true_or, Bool.false_or, Bool.or_false, Bool.not_true, Bool.not_false, Bool.false_and, Bool.and_false, if_true, if_false, Bool.false_eq_true, reduceIte, reduceCtorEq, opAdd, opSub, opMul, opDiv, opMod, opNeg, opI, opLt, opLe, opGt, opGe, opEq, opNe, opEq_int, opIs, opIsnot, opIsB, isNonP, opIx, opLen, opTuple, opList, opInt, opAbs, opStr, opSum, opMax, opMin, opMM, opAny, opAll, opAA, asSeq, asLst, top, frSeq, kdP, isa, id_eq, Option.map_some, Option.bind_some]
  cases c0 : (w == 0) with
  | true =>
    refine SatS.ret ?_
    simp only [ev_var, ev_any, ev_c, ev_bin, ev_binF, ev_chain, ev_un, ev_cons, ev_nil, ev_tup, ev_disp, ev_lst, ev_glo, ev_callB, ev_callF, ev_call, ev_if, ev_sl, ev_oN, ev_oS, ev_rev, ev_isa, ev_tOf, ev_tAnd, ev_tOr, ev_tNot, ev_andV, ev_orV, ev_notV, ev_upper, ev_yes, ev_comp, wipeE, notOwn, List.all_cons, List.all_nil, ev_range1, ev_range2, ev_isq, ev_zip2, ev_zip3, ev_enum, optR_some, bind_ok, Sat_ok, Sat_bind, List.getElem?_cons_zero, List.getElem?_cons_succ, List.set_cons_zero, List.set_cons_succ, List.length_cons, List.length_nil, Bool.true_and, Bool.and_true, Bool.and_self, Bool.or_true, Bool.true_or, Bool.false_or, Bool.or_false, Bool.not_true, Bool.not_false, Bool.false_and, Bool.and_false, if_true, if_false, Bool.false_eq_true, reduceIte, reduceCtorEq]
    refine (sat_draw hp3 (by omega) (by omega)).imp ?_
    rintro _ g4 ⟨x, rfl, x0, x1, hp4⟩
    simp only [ev_var, ev_any, ev_c, ev_bin, ev_binF, ev_chain, ev_un, ev_cons, ev_nil, ev_tup, ev_disp, ev_lst, ev_glo, ev_callB, ev_callF, ev_call, ev_if, ev_sl, ev_oN, ev_oS, ev_rev, ev_isa, ev_tOf, ev_tAnd, ev_tOr, ev_tNot, ev_andV, ev_orV, ev_notV, ev_upper, ev_yes, ev_comp, wipeE, notOwn, List.all_cons, List.all_nil, ev_range1, ev_range2, ev_isq, ev_zip2, ev_zip3, ev_enum, optR_some, bind_ok, Sat_ok, Sat_bind, List.getElem?_cons_zero, List.getElem?_cons_succ, List.set_cons_zero, List.set_cons_succ, List.length_cons, List.length_nil, Bool.true_and, Bool.and_true, Bool.and_self, Bool.or_true, Bool.true_or, Bool.false_or, Bool.or_false, Bool.not_true, Bool.not_false, Bool.false_and, Bool.and_false, if_true, if_false, Bool.false_eq_true, reduceIte, reduceCtorEq, opAdd, opSub, opMul, opDiv, opMod, opNeg, opI, opLt, opLe, opGt, opGe, opEq, opNe, opEq_int, opIs, opIsnot, opIsB, isNonP, opIx, opLen, opTuple, opList, opInt, opAbs, opStr, opSum, opMax, opMin, opMM, opAny, opAll, opAA, asSeq, asLst, top, frSeq, kdP, isa, id_eq, Option.map_some, Option.bind_some]
    exact (sat_free hp4 (by omega) n5 m5 (by omega) (by omega)).imp fun v g' q => fin v g' _ (by omega) q
  | false =>
    refine SatS.nil (SatS.seq (SatS.ite ?_))
    simp only [ev_var, ev_any, ev_c, ev_bin, ev_binF, ev_chain, ev_un, ev_cons, ev_nil, ev_tup, ev_disp, ev_lst, ev_glo, ev_callB, ev_callF, ev_call, ev_if, ev_sl, ev_oN, ev_oS, ev_rev, ev_isa, ev_tOf, ev_tAnd, ev_tOr, ev_tNot, ev_andV, ev_orV, ev_notV, ev_upper, ev_yes, ev_comp, wipeE, notOwn, List.all_cons, List.all_nil, ev_range1, ev_range2, ev_isq, ev_zip2, ev_zip3, ev_enum, optR_some, bind_ok, Sat_ok, Sat_bind, List.getElem?_cons_zero, List.getElem?_cons_succ, List.set_cons_zero, List.set_cons_succ, List.length_cons, List.length_nil, Bool.true_and, Bool.and_true, Bool.and_self, Bool.or_true, Bool.true_or, Bool.false_or, Bool.or_false, Bool.not_true, Bool.not_false, Bool.false_and, Bool.and_false, if_true, if_false, Bool.false_eq_true, reduceIte, reduceCtorEq, opAdd, opSub, opMul, opDiv, opMod, opNeg, opI, opLt, opLe, opGt, opGe, opEq, opNe, opEq_int, opIs, opIsnot, opIsB, isNonP, opIx, opLen, opTuple, opList, opInt, opAbs, opStr, opSum, opMax, opMin, opMM, opAny, opAll, opAA, asSeq, asLst, top, frSeq, kdP, isa, id_eq, Option.map_some, Option.bind_some]
    cases c1 : (w == 1) with
    | true =>
      refine SatS.ret ?_
      simp only [ev_var, ev_any, ev_c, ev_bin, ev_binF, ev_chain, ev_un, ev_cons, ev_nil, ev_tup, ev_disp, ev_lst, ev_glo, ev_callB, ev_callF, ev_call, ev_if, ev_sl, ev_oN, ev_oS, ev_rev, ev_isa, ev_tOf, ev_tAnd, ev_tOr, ev_tNot, ev_andV, ev_orV, ev_notV, ev_upper, ev_yes, ev_comp, wipeE, notOwn, List.all_cons, List.all_nil, ev_range1, ev_range2, ev_isq, ev_zip2, ev_zip3, ev_enum, optR_some, bind_ok, Sat_ok, Sat_bind, List.getElem?_cons_zero, List.getElem?_cons_succ, List.set_cons_zero, List.set_cons_succ, List.length_cons, List.length_nil, Bool.true_and, Bool.and_true, Bool.and_self, Bool.or_true, Bool.true_or, Bool.false_or, Bool.or_false, Bool.not_true, Bool.not_false, Bool.false_and, Bool.and_false, if_true, if_false, Bool.false_eq_true, reduceIte, reduceCtorEq]
      exact (sat_machine hp3 (by omega) n1 n5 m5).imp fun v g' q => fin v g' _ (by omega) q
    | false =>
      refine SatS.nil (SatS.seq (SatS.ite ?_))
      simp only [ev_var, ev_any, ev_c, ev_bin, ev_binF, ev_chain, ev_un, ev_cons, ev_nil, ev_tup, ev_disp, ev_lst, ev_glo, ev_callB, ev_callF, ev_call, ev_if, ev_sl, ev_oN, ev_oS, ev_rev, ev_isa, ev_tOf, ev_tAnd, ev_tOr, ev_tNot, ev_andV, ev_orV, ev_notV, ev_upper, ev_yes, ev_comp, wipeE, notOwn, List.all_cons, List.all_nil, ev_range1, ev_range2, ev_isq, ev_zip2, ev_zip3, ev_enum, optR_some, bind_ok, Sat_ok, Sat_bind, List.getElem?_cons_zero, List.getElem?_cons_succ, List.set_cons_zero, List.set_cons_succ, List.length_cons, List.length_nil, Bool.true_and, Bool.and_true, Bool.and_self, Bool.or_true, Bool.true_or, Bool.false_or, Bool.or_false, Bool.not_true, Bool.not_false, Bool.false_and, Bool.and_false, if_true, if_false, Bool.false_eq_true, reduceIte, reduceCtorEq, opAdd, opSub, opMul, opDiv, opMod, opNeg, opI, opLt, opLe, opGt, opGe, opEq, opNe, opEq_int, opIs, opIsnot, opIsB, isNonP, opIx, opLen, opTuple, opList, opInt, opAbs, opStr, opSum, opMax, opMin, opMM, opAny, opAll, opAA, asSeq, asLst, top, frSeq, kdP, isa, id_eq, Option.map_some, Option.bind_some]
      cases c2 : (w == 2) with
      | true =>
        refine SatS.ret ?_
        simp only [ev_var, ev_any, ev_c, ev_bin, ev_binF, ev_chain, ev_un, ev_cons, ev_nil, ev_tup, ev_disp, ev_lst, ev_glo, ev_callB, ev_callF, ev_call, ev_if, ev_sl, ev_oN, ev_oS, ev_rev, ev_isa, ev_tOf, ev_tAnd, ev_tOr, ev_tNot, ev_andV, ev_orV, ev_notV, ev_upper, ev_yes, ev_comp, wipeE, notOwn, List.all_cons, List.all_nil, ev_range1, ev_range2, ev_isq, ev_zip2, ev_zip3, ev_enum, optR_some, bind_ok, Sat_ok, Sat_bind, List.getElem?_cons_zero, List.getElem?_cons_succ, List.set_cons_zero, List.set_cons_succ, List.length_cons, List.length_nil, Bool.true_and, Bool.and_true, Bool.and_self, Bool.or_true, Bool.true_or, Bool.false_or, Bool.or_false, Bool.not_true, Bool.not_false, Bool.false_and, Bool.and_false, if_true, if_false, Bool.false_eq_true, reduceIte, reduceCtorEq]
        exact (sat_graph hp3 (by omega) n5 m1 m5).imp fun v g' q => fin v g' _ (by omega) q
      | false =>
        refine SatS.nil (SatS.seq (SatS.ite ?_))
        simp only [ev_var, ev_any, ev_c, ev_bin, ev_binF, ev_chain, ev_un, ev_cons, ev_nil, ev_tup, ev_disp, ev_lst, ev_glo, ev_callB, ev_callF, ev_call, ev_if, ev_sl, ev_oN, ev_oS, ev_rev, ev_isa, ev_tOf, ev_tAnd, ev_tOr, ev_tNot, ev_andV, ev_orV, ev_notV, ev_upper, ev_yes, ev_comp, wipeE, notOwn, List.all_cons, List.all_nil, ev_range1, ev_range2, ev_isq, ev_zip2, ev_zip3, ev_enum, optR_some, bind_ok, Sat_ok, Sat_bind, List.getElem?_cons_zero, List.getElem?_cons_succ, List.set_cons_zero, List.set_cons_succ, List.length_cons, List.length_nil, Bool.true_and, Bool.and_true, Bool.and_self, Bool.or_true, Bool.true_or, Bool.false_or, Bool.or_false, Bool.not_true, Bool.not_false, Bool.false_and, Bool.and_false, if_true, if_false, Bool.false_eq_true, reduceIte, reduceCtorEq, opAdd, opSub, opMul, opDiv, opMod, opNeg, opI, opLt, opLe, opGt, opGe, opEq, opNe, opEq_int, opIs, opIsnot, opIsB, isNonP, opIx, opLen, opTuple, opList, opInt, opAbs, opStr, opSum, opMax, opMin, opMM, opAny, opAll, opAA, asSeq, asLst, top, frSeq, kdP, isa, id_eq, Option.map_some, Option.bind_some]
        cases c3 : (w == 3) with
        | true =>
          refine SatS.ret ?_
          simp only [ev_var, ev_any, ev_c, ev_bin, ev_binF, ev_chain, ev_un, ev_cons, ev_nil, ev_tup, ev_disp, ev_lst, ev_glo, ev_callB, ev_callF, ev_call, ev_if, ev_sl, ev_oN, ev_oS, ev_rev, ev_isa, ev_tOf, ev_tAnd, ev_tOr, ev_tNot, ev_andV, ev_orV, ev_notV, ev_upper, ev_yes, ev_comp, wipeE, notOwn, List.all_cons, List.all_nil, ev_range1, ev_range2, ev_isq, ev_zip2, ev_zip3, ev_enum, optR_some, bind_ok, Sat_ok, Sat_bind, List.getElem?_cons_zero, List.getElem?_cons_succ, List.set_cons_zero, List.set_cons_succ, List.length_cons, List.length_nil, Bool.true_and, Bool.and_true, Bool.and_self, Bool.or_true, Bool.true_or, Bool.false_or, Bool.or_false, Bool.not_true, Bool.not_false, Bool.false_and, Bool.and_false, if_true, if_false, Bool.false_eq_true, reduceIte, reduceCtorEq]
          exact (sat_less hp3 (by omega) n1 n5 m5).imp fun v g' q => fin v g' _ (by omega) q
        | false =>
          refine SatS.nil (SatS.ret ?_)
          simp only [ev_var, ev_any, ev_c, ev_bin, ev_binF, ev_chain, ev_un, ev_cons, ev_nil, ev_tup, ev_disp, ev_lst, ev_glo, ev_callB, ev_callF, ev_call, ev_if, ev_sl, ev_oN, ev_oS, ev_rev, ev_isa, ev_tOf, ev_tAnd, ev_tOr, ev_tNot, ev_andV, ev_orV, ev_notV, ev_upper, ev_yes, ev_comp, wipeE, notOwn, List.all_cons, List.all_nil, ev_range1, ev_range2, ev_isq, ev_zip2, ev_zip3, ev_enum, optR_some, bind_ok, Sat_ok, Sat_bind, List.getElem?_cons_zero, List.getElem?_cons_succ, List.set_cons_zero, List.set_cons_succ, List.length_cons, List.length_nil, Bool.true_and, Bool.and_true, Bool.and_self, Bool.or_true, Bool.true_or, Bool.false_or, Bool.or_false, Bool.not_true, Bool.not_false, Bool.false_and, Bool.and_false, if_true, if_false, Bool.false_eq_true, reduceIte, reduceCtorEq]
          exact (sat_even hp3 (by omega) n1 n5 m5).imp fun v g' q => fin v g' _ (by omega) q

/-! ## rows of ints -/
theorem eq_of_sat {r : Res PV} {v : PV} {g : G} (h : Sat r fun v' g' => v' = v ∧ g' = g) : r = .ok v g := by
  obtain ⟨v', g', h1, rfl, rfl⟩ := h.eq
  exact h1
def addL (a b : List Int) : List Int := (a.zip b).map fun q => q.1 + q.2
def mulL (m : Int) (a : List Int) : List Int := a.map fun x => m * x
def leB (a b : List Int) : Bool := (a.zip b).all fun q => decide (q.1 ≤ q.2)
theorem zip_ints : ∀ a b : List Int, zipP2 (a.map .int) (b.map .int) = (a.zip b).map fun q => .tup [.int q.1, .int q.2]
  | [], b => rfl
  | a :: as, [] => rfl
  | a :: as, b :: bs => by
    show _ :: zipP2 (as.map .int) (bs.map .int) = _ :: (as.zip bs).map _
    rw [zip_ints as bs]
theorem map_range (n : Nat) : rangeL 0 (n : Int) = (List.range n).map fun k => PV.int (k : Nat) := by
  unfold rangeL
  rw [show ((n : Int) - 0).toNat = n by omega]
  exact List.map_congr_left fun k _ => by rw [Int.zero_add]
theorem bls_map {α : Type} (f : α → Bool) : ∀ l : List α, blsOf (l.map fun a => PV.bl (f a)) = some (l.map f)
  | [] => rfl
  | a :: l => by
    rw [List.map_cons]
    unfold blsOf
    rw [bls_map f l]; rfl
theorem ints_map : ∀ l : List Int, intsOf (l.map PV.int) = some l
  | [] => rfl
  | a :: l => by
    rw [List.map_cons]
    unfold intsOf
    rw [ints_map l]; rfl
theorem plus_eq (a b : List Int) (g : G) : Fplus [ti a, ti b] g = .ok (ti (addL a b)) g := by
  apply eq_of_sat
  refine satFn rfl ?_
  show SatS (Bplus [.val (ti a), .val (ti b), .un, .un] g) _ _
  refine SatS.ret ?_
  simp only [ev_var, ev_any, ev_c, ev_bin, ev_binF, ev_chain, ev_un, ev_cons, ev_nil, ev_tup, ev_disp, ev_lst, ev_glo, ev_callB, ev_callF, ev_call, ev_if, ev_sl, ev_oN, ev_oS, ev_rev, ev_isa, ev_tOf, ev_tAnd, ev_tOr, ev_tNot, ev_andV, ev_orV, ev_notV, ev_upper, ev_yes, ev_comp, wipeE, notOwn, List.all_cons, List.all_nil, ev_range1, ev_range2, ev_isq, ev_zip2, ev_zip3, ev_enum, optR_some, bind_ok, Sat_ok, Sat_bind, List.getElem?_cons_zero, List.getElem?_cons_succ, List.set_cons_zero, List.set_cons_succ, List.length_cons, List.length_nil, Bool.true_and, Bool.and_true, Bool.and_self, Bool.or_true, Bool.true_or, Bool.false_or, Bool.or_false, Bool.not_true, Bool.not_false, Bool.false_and, Bool.and_false, if_true, if_false, Bool.false_eq_true, reduceIte, reduceCtorEq, opAdd, opSub, opMul, opDiv, opMod, opNeg, opI, opLt, opLe, opGt, opGe, opEq, opNe, opEq_int, opIs, opIsnot, opIsB, isNonP, opIx, opLen, opTuple, opList, opInt, opAbs, opStr, opSum, opMax, opMin, opMM, opAny, opAll, opAA, asSeq, asLst, top, frSeq, kdP, isa, id_eq, Option.map_some, Option.bind_some]
  rw [zip_ints, comp_all (fun q : Int × Int => .tup [.int q.1, .int q.2]) (fun q => PV.int (q.1 + q.2)) (fun q _ => ⟨_, rfl, rfl⟩)]
  simp only [ev_var, ev_any, ev_c, ev_bin, ev_binF, ev_chain, ev_un, ev_cons, ev_nil, ev_tup, ev_disp, ev_lst, ev_glo, ev_callB, ev_callF, ev_call, ev_if, ev_sl, ev_oN, ev_oS, ev_rev, ev_isa, ev_tOf, ev_tAnd, ev_tOr, ev_tNot, ev_andV, ev_orV, ev_notV, ev_upper, ev_yes, ev_comp, wipeE, notOwn, List.all_cons, List.all_nil, ev_range1, ev_range2, ev_isq, ev_zip2, ev_zip3, ev_enum, optR_some, bind_ok, Sat_ok, Sat_bind, List.getElem?_cons_zero, List.getElem?_cons_succ, List.set_cons_zero, List.set_cons_succ, List.length_cons, List.length_nil, Bool.true_and, Bool.and_true, Bool.and_self, Bool.or_true, Bool.true_or, Bool.false_or, Bool.or_false, Bool.not_true, Bool.not_false, Bool.false_and, Bool.and_false, if_true, if_false, Bool.false_eq_true, reduceIte, reduceCtorEq, opAdd, opSub, opMul, opDiv, opMod, opNeg, opI, opLt, opLe, opGt, opGe, opEq, opNe, opEq_int, opIs, opIsnot, opIsB, isNonP, opIx, opLen, opTuple, opList, opInt, opAbs, opStr, opSum, opMax, opMin, opMM, opAny, opAll, opAA, asSeq, asLst, top, frSeq, kdP, isa, id_eq, Option.map_some, Option.bind_some]
  exact ⟨by unfold addL ti; rw [List.map_map]; rfl, trivial⟩
theorem within_eq (a b : List Int) (g : G) : Fis_within [ti a, ti b] g = .ok (.bl (leB a b)) g := by
  apply eq_of_sat
  refine satFn rfl ?_
  show SatS (Bis_within [.val (ti a), .val (ti b), .un, .un] g) _ _
  refine SatS.ret ?_
  simp only [ev_var, ev_any, ev_c, ev_bin, ev_binF, ev_chain, ev_un, ev_cons, ev_nil, ev_tup, ev_disp, ev_lst, ev_glo, ev_callB, ev_callF, ev_call, ev_if, ev_sl, ev_oN, ev_oS, ev_rev, ev_isa, ev_tOf, ev_tAnd, ev_tOr, ev_tNot, ev_andV, ev_orV, ev_notV, ev_upper, ev_yes, ev_comp, wipeE, notOwn, List.all_cons, List.all_nil, ev_range1, ev_range2, ev_isq, ev_zip2, ev_zip3, ev_enum, optR_some, bind_ok, Sat_ok, Sat_bind, List.getElem?_cons_zero, List.getElem?_cons_succ, List.set_cons_zero, List.set_cons_succ, List.length_cons, List.length_nil, Bool.true_and, Bool.and_true, Bool.and_self, Bool.or_true, Bool.true_or, Bool.false_or, Bool.or_false, Bool.not_true, Bool.not_false, Bool.false_and, Bool.and_false, if_true, if_false, Bool.false_eq_true, reduceIte, reduceCtorEq, opAdd, opSub, opMul, opDiv, opMod, opNeg, opI, opLt, opLe, opGt, opGe, opEq, opNe, opEq_int, opIs, opIsnot, opIsB, isNonP, opIx, opLen, opTuple, opList, opInt, opAbs, opStr, opSum, opMax, opMin, opMM, opAny, opAll, opAA, asSeq, asLst, top, frSeq, kdP, isa, id_eq, Option.map_some, Option.bind_some]
  rw [zip_ints, comp_all (fun q : Int × Int => .tup [.int q.1, .int q.2]) (fun q => PV.bl (decide (q.1 ≤ q.2))) (fun q _ => ⟨_, rfl, rfl⟩)]
  simp only [ev_var, ev_any, ev_c, ev_bin, ev_binF, ev_chain, ev_un, ev_cons, ev_nil, ev_tup, ev_disp, ev_lst, ev_glo, ev_callB, ev_callF, ev_call, ev_if, ev_sl, ev_oN, ev_oS, ev_rev, ev_isa, ev_tOf, ev_tAnd, ev_tOr, ev_tNot, ev_andV, ev_orV, ev_notV, ev_upper, ev_yes, ev_comp, wipeE, notOwn, List.all_cons, List.all_nil, ev_range1, ev_range2, ev_isq, ev_zip2, ev_zip3, ev_enum, optR_some, bind_ok, Sat_ok, Sat_bind, List.getElem?_cons_zero, List.getElem?_cons_succ, List.set_cons_zero, List.set_cons_succ, List.length_cons, List.length_nil, Bool.true_and, Bool.and_true, Bool.and_self, Bool.or_true, Bool.true_or, Bool.false_or, Bool.or_false, Bool.not_true, Bool.not_false, Bool.false_and, Bool.and_false, if_true, if_false, Bool.false_eq_true, reduceIte, reduceCtorEq, opAdd, opSub, opMul, opDiv, opMod, opNeg, opI, opLt, opLe, opGt, opGe, opEq, opNe, opEq_int, opIs, opIsnot, opIsB, isNonP, opIx, opLen, opTuple, opList, opInt, opAbs, opStr, opSum, opMax, opMin, opMM, opAny, opAll, opAA, asSeq, asLst, top, frSeq, kdP, isa, id_eq, Option.map_some, Option.bind_some, bls_map]
  refine ⟨?_, trivial⟩
  unfold leB
  rw [List.all_map]; rfl
theorem leB_iff {a b : List Int} : leB a b = true ↔ ∀ (k : Nat) (x y : Int), a[k]? = some x → b[k]? = some y → x ≤ y := by
  unfold leB
  rw [List.all_eq_true]
  constructor
  · intro h k x y hx hy
    have := h (x, y) (List.mem_of_getElem? (List.getElem?_zip_eq_some.mpr ⟨hx, hy⟩ : (a.zip b)[k]? = some (x, y)))
    exact of_decide_eq_true this
  · rintro h ⟨x, y⟩ hm
    obtain ⟨k, hk⟩ := List.getElem?_of_mem hm
    obtain ⟨hx, hy⟩ := List.getElem?_zip_eq_some.mp hk
    exact decide_eq_true (h k x y hx hy)
theorem lwithin_eq (a b : List Int) (g : G) (h : a.length = b.length) (hn : a.length ≤ 1000) : F_law_within [ti a, ti b] g = .ok (.bl (leB a b)) g := by
  apply eq_of_sat
  refine satFn rfl ?_
  show SatS (B_law_within [.val (ti a), .val (ti b), .un] g) _ _
  refine SatS.ret ?_
  simp only [ev_var, ev_any, ev_c, ev_bin, ev_binF, ev_chain, ev_un, ev_cons, ev_nil, ev_tup, ev_disp, ev_lst, ev_glo, ev_callB, ev_callF, ev_call, ev_if, ev_sl, ev_oN, ev_oS, ev_rev, ev_isa, ev_tOf, ev_tAnd, ev_tOr, ev_tNot, ev_andV, ev_orV, ev_notV, ev_upper, ev_yes, ev_comp, wipeE, notOwn, List.all_cons, List.all_nil, ev_range1, ev_range2, ev_isq, ev_zip2, ev_zip3, ev_enum, optR_some, bind_ok, Sat_ok, Sat_bind, List.getElem?_cons_zero, List.getElem?_cons_succ, List.set_cons_zero, List.set_cons_succ, List.length_cons, List.length_nil, Bool.true_and, Bool.and_true, Bool.and_self, Bool.or_true, Bool.true_or, Bool.false_or, Bool.or_false, Bool.not_true, Bool.not_false, Bool.false_and, Bool.and_false, if_true, if_false, Bool.false_eq_true, reduceIte, reduceCtorEq, opAdd, opSub, opMul, opDiv, opMod, opNeg, opI, opLt, opLe, opGt, opGe, opEq, opNe, opEq_int, opIs, opIsnot, opIsB, isNonP, opIx, opLen, opTuple, opList, opInt, opAbs, opStr, opSum, opMax, opMin, opMM, opAny, opAll, opAA, asSeq, asLst, top, frSeq, kdP, isa, id_eq, Option.map_some, Option.bind_some, List.length_map, rg1 (show (0 : Int) ≤ a.length by omega), rg2 (show (a.length : Int) ≤ 1000000 by omega)]
  rw [map_range, comp_map (fun k : Nat => PV.int (k : Nat)) (fun k => decide (b.getD k 0 < a.getD k 0)) (fun k : Nat => PV.int (k : Nat)) (fun k hk => ?_)]
  · simp only [ev_var, ev_any, ev_c, ev_bin, ev_binF, ev_chain, ev_un, ev_cons, ev_nil, ev_tup, ev_disp, ev_lst, ev_glo, ev_callB, ev_callF, ev_call, ev_if, ev_sl, ev_oN, ev_oS, ev_rev, ev_isa, ev_tOf, ev_tAnd, ev_tOr, ev_tNot, ev_andV, ev_orV, ev_notV, ev_upper, ev_yes, ev_comp, wipeE, notOwn, List.all_cons, List.all_nil, ev_range1, ev_range2, ev_isq, ev_zip2, ev_zip3, ev_enum, optR_some, bind_ok, Sat_ok, Sat_bind, List.getElem?_cons_zero, List.getElem?_cons_succ, List.set_cons_zero, List.set_cons_succ, List.length_cons, List.length_nil, Bool.true_and, Bool.and_true, Bool.and_self, Bool.or_true, Bool.true_or, Bool.false_or, Bool.or_false, Bool.not_true, Bool.not_false, Bool.false_and, Bool.and_false, if_true, if_false, Bool.false_eq_true, reduceIte, reduceCtorEq, opAdd, opSub, opMul, opDiv, opMod, opNeg, opI, opLt, opLe, opGt, opGe, opEq, opNe, opEq_int, opIs, opIsnot, opIsB, isNonP, opIx, opLen, opTuple, opList, opInt, opAbs, opStr, opSum, opMax, opMin, opMM, opAny, opAll, opAA, asSeq, asLst, top, frSeq, kdP, isa, id_eq, Option.map_some, Option.bind_some, List.length_map]
    refine ⟨?_, trivial⟩
    congr 1
    rw [Bool.eq_iff_iff, leB_iff, beq_iff_eq]
    constructor
    · intro hz k x y hx hy
      have hk : k < a.length := (List.getElem?_eq_some_iff.mp hx).1
      have hz : ((List.range a.length).filter fun k => decide (b.getD k 0 < a.getD k 0)).length = 0 := by omega
      have := List.filter_eq_nil_iff.mp (List.eq_nil_of_length_eq_zero hz) k (List.mem_range.mpr hk)
      rw [List.getD_eq_getElem?_getD, List.getD_eq_getElem?_getD, hx, hy] at this
      simp at this
      exact this
    · intro hz
      have : ((List.range a.length).filter fun k => decide (b.getD k 0 < a.getD k 0)) = [] := by
        rw [List.filter_eq_nil_iff]
        intro k hk
        have hk := List.mem_range.mp hk
        have e1 := List.getElem?_eq_getElem hk
        have e2 := List.getElem?_eq_getElem (show k < b.length by omega)
        have := hz k _ _ e1 e2
        rw [List.getD_eq_getElem?_getD, List.getD_eq_getElem?_getD, e1, e2]
        simp
        exact this
      rw [this]; rfl
  · have hk := List.mem_range.mp hk
    refine ⟨_, rfl, ?_⟩
    have e1 := List.getElem?_eq_getElem hk
    have e2 := List.getElem?_eq_getElem (show k < b.length by omega)
    simp only [ev_var, ev_any, ev_c, ev_bin, ev_binF, ev_chain, ev_un, ev_cons, ev_nil, ev_tup, ev_disp, ev_lst, ev_glo, ev_callB, ev_callF, ev_call, ev_if, ev_sl, ev_oN, ev_oS, ev_rev, ev_isa, ev_tOf, ev_tAnd, ev_tOr, ev_tNot, ev_andV, ev_orV, ev_notV, ev_upper, ev_yes, ev_comp, wipeE, notOwn, List.all_cons, List.all_nil, ev_range1, ev_range2, ev_isq, ev_zip2, ev_zip3, ev_enum, optR_some, bind_ok, Sat_ok, Sat_bind, List.getElem?_cons_zero, List.getElem?_cons_succ, List.set_cons_zero, List.set_cons_succ, List.length_cons, List.length_nil, Bool.true_and, Bool.and_true, Bool.and_self, Bool.or_true, Bool.true_or, Bool.false_or, Bool.or_false, Bool.not_true, Bool.not_false, Bool.false_and, Bool.and_false, if_true, if_false, Bool.false_eq_true, reduceIte, reduceCtorEq, opAdd, opSub, opMul, opDiv, opMod, opNeg, opI, opLt, opLe, opGt, opGe, opEq, opNe, opEq_int, opIs, opIsnot, opIsB, isNonP, opIx, opLen, opTuple, opList, opInt, opAbs, opStr, opSum, opMax, opMin, opMM, opAny, opAll, opAA, asSeq, asLst, top, frSeq, kdP, isa, id_eq, Option.map_some, Option.bind_some, getI hk, getI (show k < b.length by omega)]
    rw [List.getD_eq_getElem?_getD, List.getD_eq_getElem?_getD, e1, e2]
    exact ⟨by first | rfl | trivial, fun _ => by first | rfl | trivial⟩
theorem sat_marking {p : PV} {g : G} {B n : Nat} {w : Int} (h : Pool p g B) (hB : B ≤ 100000000) (hn : n ≤ 100) (hw : 0 ≤ w) (hw' : w ≤ 9) : Sat (F_law_marking [p, .int n, .int w] g) fun v g' => ∃ s : List Int, v = ti s ∧ Side n s ∧ Pool p g' (B + n) := by
  refine satFn rfl ?_
  show SatS (B_law_marking [.val p, .val (.int n), .val (.int w), .un] g) _ _
  refine SatS.ret ?_
  simp only [ev_var, ev_any, ev_c, ev_bin, ev_binF, ev_chain, ev_un, ev_cons, ev_nil, ev_tup, ev_disp, ev_lst, ev_glo, ev_callB, ev_callF, ev_call, ev_if, ev_sl, ev_oN, ev_oS, ev_rev, ev_isa, ev_tOf, ev_tAnd, ev_tOr, ev_tNot, ev_andV, ev_orV, ev_notV, ev_upper, ev_yes, ev_comp, wipeE, notOwn, List.all_cons, List.all_nil, ev_range1, ev_range2, ev_isq, ev_zip2, ev_zip3, ev_enum, optR_some, bind_ok, Sat_ok, Sat_bind, List.getElem?_cons_zero, List.getElem?_cons_succ, List.set_cons_zero, List.set_cons_succ, List.length_cons, List.length_nil, Bool.true_and, Bool.and_true, Bool.and_self, Bool.or_true, Bool.true_or, Bool.false_or, Bool.or_false, Bool.not_true, Bool.not_false, Bool.false_and, Bool.and_false, if_true, if_false, Bool.false_eq_true, reduceIte, reduceCtorEq, opAdd, opSub, opMul, opDiv, opMod, opNeg, opI, opLt, opLe, opGt, opGe, opEq, opNe, opEq_int, opIs, opIsnot, opIsB, isNonP, opIx, opLen, opTuple, opList, opInt, opAbs, opStr, opSum, opMax, opMin, opMM, opAny, opAll, opAA, asSeq, asLst, top, frSeq, kdP, isa, id_eq, Option.map_some, Option.bind_some, rg1 (show (0 : Int) ≤ n by omega), rg2 (show (n : Int) ≤ 1000000 by omega)]
  refine sat_comp (fun k acc g' => ∃ s : List Int, acc = s.map .int ∧ s.length = k ∧ (∀ x ∈ s, 0 ≤ x ∧ x ≤ 10) ∧ Pool p g' (B + k)) ?_ ?_ ⟨[], rfl, rfl, by simp, h⟩
  · rintro k x acc g' hx ⟨s, rfl, hs, hb, hp⟩
    obtain ⟨rfl, hk, _⟩ := range_at hx
    refine ⟨_, rfl, ?_⟩
    simp only [ev_var, ev_any, ev_c, ev_bin, ev_binF, ev_chain, ev_un, ev_cons, ev_nil, ev_tup, ev_disp, ev_lst, ev_glo, ev_callB, ev_callF, ev_call, ev_if, ev_sl, ev_oN, ev_oS, ev_rev, ev_isa, ev_tOf, ev_tAnd, ev_tOr, ev_tNot, ev_andV, ev_orV, ev_notV, ev_upper, ev_yes, ev_comp, wipeE, notOwn, List.all_cons, List.all_nil, ev_range1, ev_range2, ev_isq, ev_zip2, ev_zip3, ev_enum, optR_some, bind_ok, Sat_ok, Sat_bind, List.getElem?_cons_zero, List.getElem?_cons_succ, List.set_cons_zero, List.set_cons_succ, List.length_cons, List.length_nil, Bool.true_and, Bool.and_true, Bool.and_self, Bool.or_true, Bool.true_or, Bool.false_or, Bool.or_false, Bool.not_true, Bool.not_false, Bool.false_and, Bool.and_false, if_true, if_false, Bool.false_eq_true, reduceIte, reduceCtorEq, opAdd, opSub, opMul, opDiv, opMod, opNeg, opI, opLt, opLe, opGt, opGe, opEq, opNe, opEq_int, opIs, opIsnot, opIsB, isNonP, opIx, opLen, opTuple, opList, opInt, opAbs, opStr, opSum, opMax, opMin, opMM, opAny, opAll, opAA, asSeq, asLst, top, frSeq, kdP, isa, id_eq, Option.map_some, Option.bind_some]
    refine (sat_draw hp (by omega) (by omega)).imp ?_
    rintro _ g2 ⟨j, rfl, j0, j1, hp2⟩
    refine ⟨s ++ [j], by rw [List.map_append]; rfl, by rw [List.length_append, hs]; rfl, ?_, hp2⟩
    intro x hx
    rcases List.mem_append.mp hx with hx | hx
    · exact hb x hx
    · rw [List.mem_singleton.mp hx]; omega
  · rintro acc g' ⟨s, rfl, hs, hb, hp⟩
    rw [rangeN_len] at hs hp
    exact ⟨s, rfl, ⟨hs, hb⟩, hp⟩

theorem zip_map {α β : Type} (f : α → PV) (h : β → PV) : ∀ (a : List α) (b : List β), zipP2 (a.map f) (b.map h) = (a.zip b).map fun q => .tup [f q.1, h q.2]
  | [], b => rfl
  | a :: as, [] => rfl
  | a :: as, b :: bs => by
    show _ :: zipP2 (as.map f) (bs.map h) = _ :: (as.zip bs).map _
    rw [zip_map f h as bs]
theorem zip_map3 {α β γ : Type} (f : α → PV) (h : β → PV) (k : γ → PV) : ∀ (a : List α) (b : List β) (c : List γ), zipP3 (a.map f) (b.map h) (c.map k) = (a.zip (b.zip c)).map fun q => .tup [f q.1, h q.2.1, k q.2.2]
  | [], b, c => rfl
  | a :: as, [], c => by cases c <;> rfl
  | a :: as, b :: bs, [] => rfl
  | a :: as, b :: bs, c :: cs => by
    show _ :: zipP3 (as.map f) (bs.map h) (cs.map k) = _ :: (as.zip (bs.zip cs)).map _
    rw [zip_map3 f h k as bs cs]
theorem take_succ_some {α : Type} {l : List α} {k : Nat} {x : α} (h : l[k]? = some x) : l.take (k + 1) = l.take k ++ [x] := by
  rw [List.take_add_one, h]; rfl
/-- what a step takes (or gives) -/
def takenL (f : List Int × List Int → List Int) (n : Nat) (step : List Int) (ds : List (List Int × List Int)) : List Int := (step.zip ds).foldl (fun acc q => addL acc (mulL q.1 (f q.2))) (List.replicate n 0)
theorem addL_len {a b : List Int} (h : a.length = b.length) : (addL a b).length = a.length := by
  unfold addL; rw [List.length_map, List.length_zip]; omega
theorem mulL_len {m : Int} {a : List Int} : (mulL m a).length = a.length := by unfold mulL; rw [List.length_map]
theorem fold_len (f : List Int × List Int → List Int) (n : Nat) : ∀ (l : List (Int × (List Int × List Int))) (a : List Int), a.length = n → (∀ q ∈ l, (f q.2).length = n) → (l.foldl (fun acc q => addL acc (mulL q.1 (f q.2))) a).length = n
  | [], a, h, _ => h
  | q :: l, a, h, hl => by
    rw [List.foldl_cons]
    refine fold_len f n l _ ?_ fun q hq => hl q (List.mem_cons_of_mem _ hq)
    rw [addL_len (by rw [mulL_len, h, hl q (by simp)])]; exact h
theorem takenL_len {f : List Int × List Int → List Int} {n : Nat} {ds : List (List Int × List Int)} (hd : ∀ d ∈ ds, (f d).length = n) (step : List Int) : (takenL f n step ds).length = n :=
  fold_len f n _ _ List.length_replicate fun q hq => hd q.2 (List.of_mem_zip hq).2
theorem small_mul {x y : Int} (h : 0 ≤ y ∧ y ≤ 10) : (Q.small64 x || Q.small64 y) = true := by rw [small_of (i := y) (by omega) (by omega)]; simp
theorem zeros_n (n : Nat) : (List.replicate n [PV.int 0]).flatten = (List.replicate n (0 : Int)).map .int := rep_zero n
theorem taken_eq {n : Nat} {ds : List (List Int × List Int)} (N : NetOk n ds) (step : List Int) (g : G) : Ftaken_by [netP n ds, ti step] g = .ok (ti (takenL (·.1) n step ds)) g := by
  have hn5 := N.n5
  have c1 : decide ((-1000 : Int) ≤ n) = true := decide_eq_true (by omega)
  have c2 : decide ((n : Int) ≤ 1000) = true := decide_eq_true (by omega)
  apply eq_of_sat
  refine satFn rfl ?_
  show SatS (Btaken_by [.val (netP n ds), .val (ti step), .un, .un, .un, .un, .un] g) _ _
  refine SatS.seq (SatS.set ?_)
  simp only [ev_var, ev_any, ev_c, ev_bin, ev_binF, ev_chain, ev_un, ev_cons, ev_nil, ev_tup, ev_disp, ev_lst, ev_glo, ev_callB, ev_callF, ev_call, ev_if, ev_sl, ev_oN, ev_oS, ev_rev, ev_isa, ev_tOf, ev_tAnd, ev_tOr, ev_tNot, ev_andV, ev_orV, ev_notV, ev_upper, ev_yes, ev_comp, wipeE, notOwn, List.all_cons, List.all_nil, ev_range1, ev_range2, ev_isq, ev_zip2, ev_zip3, ev_enum, optR_some, bind_ok, Sat_ok, Sat_bind, List.getElem?_cons_zero, List.getElem?_cons_succ, List.set_cons_zero, List.set_cons_succ, List.length_cons, List.length_nil, Bool.true_and, Bool.and_true, Bool.and_self, Bool.or_true, Bool.true_or, Bool.false_or, Bool.or_false, Bool.not_true, Bool.not_false, Bool.false_and, Bool.and_false, if_true, if_false, Bool.false_eq_true, reduceIte, reduceCtorEq, opAdd, opSub, opMul, opDiv, opMod, opNeg, opI, opLt, opLe, opGt, opGe, opEq, opNe, opEq_int, opIs, opIsnot, opIsB, isNonP, opIx, opLen, opTuple, opList, opInt, opAbs, opStr, opSum, opMax, opMin, opMM, opAny, opAll, opAA, asSeq, asLst, top, frSeq, kdP, isa, id_eq, Option.map_some, Option.bind_some, fits1000 (show 1 ≤ 1000000 by omega), show atI [PV.int n, PV.tup (ds.map dp)] 0 = some (PV.int n) from rfl, c1, c2, show Nat.ble 1 1000 = true from rfl, Int.toNat_natCast, rep_zero]
  refine SatS.seq (SatS.for_ ?_)
  simp only [ev_var, ev_any, ev_c, ev_bin, ev_binF, ev_chain, ev_un, ev_cons, ev_nil, ev_tup, ev_disp, ev_lst, ev_glo, ev_callB, ev_callF, ev_call, ev_if, ev_sl, ev_oN, ev_oS, ev_rev, ev_isa, ev_tOf, ev_tAnd, ev_tOr, ev_tNot, ev_andV, ev_orV, ev_notV, ev_upper, ev_yes, ev_comp, wipeE, notOwn, List.all_cons, List.all_nil, ev_range1, ev_range2, ev_isq, ev_zip2, ev_zip3, ev_enum, optR_some, bind_ok, Sat_ok, Sat_bind, List.getElem?_cons_zero, List.getElem?_cons_succ, List.set_cons_zero, List.set_cons_succ, List.length_cons, List.length_nil, Bool.true_and, Bool.and_true, Bool.and_self, Bool.or_true, Bool.true_or, Bool.false_or, Bool.or_false, Bool.not_true, Bool.not_false, Bool.false_and, Bool.and_false, if_true, if_false, Bool.false_eq_true, reduceIte, reduceCtorEq, opAdd, opSub, opMul, opDiv, opMod, opNeg, opI, opLt, opLe, opGt, opGe, opEq, opNe, opEq_int, opIs, opIsnot, opIsB, isNonP, opIx, opLen, opTuple, opList, opInt, opAbs, opStr, opSum, opMax, opMin, opMM, opAny, opAll, opAA, asSeq, asLst, top, frSeq, kdP, isa, id_eq, Option.map_some, Option.bind_some, show atI [PV.int n, PV.tup (ds.map dp)] 1 = some (PV.tup (ds.map dp)) from rfl]
  rw [zip_map]
  refine sat_for (fun k e g' => g' = g ∧ ∃ s3 s4 s5 : SV, e = [.val (netP n ds), .val (ti step), .val (ti (((step.zip ds).take k).foldl (fun acc q => addL acc (mulL q.1 q.2.1)) (List.replicate n 0))), s3, s4, s5, .un]) ?_ ?_ ⟨rfl, _, _, _, rfl⟩
  · rintro k x e g' hx ⟨rfl, s3, s4, s5, rfl⟩
    rw [List.getElem?_map] at hx
    cases hq : (step.zip ds)[k]? with
    | none => rw [hq] at hx; cases hx
    | some q =>
      rw [hq] at hx; cases hx
      have hd := (List.of_mem_zip (List.mem_of_getElem? hq : (q.1, q.2) ∈ step.zip ds)).2
      refine ⟨_, rfl, SatS.set ?_⟩
      simp only [ev_var, ev_any, ev_c, ev_bin, ev_binF, ev_chain, ev_un, ev_cons, ev_nil, ev_tup, ev_disp, ev_lst, ev_glo, ev_callB, ev_callF, ev_call, ev_if, ev_sl, ev_oN, ev_oS, ev_rev, ev_isa, ev_tOf, ev_tAnd, ev_tOr, ev_tNot, ev_andV, ev_orV, ev_notV, ev_upper, ev_yes, ev_comp, wipeE, notOwn, List.all_cons, List.all_nil, ev_range1, ev_range2, ev_isq, ev_zip2, ev_zip3, ev_enum, optR_some, bind_ok, Sat_ok, Sat_bind, List.getElem?_cons_zero, List.getElem?_cons_succ, List.set_cons_zero, List.set_cons_succ, List.length_cons, List.length_nil, Bool.true_and, Bool.and_true, Bool.and_self, Bool.or_true, Bool.true_or, Bool.false_or, Bool.or_false, Bool.not_true, Bool.not_false, Bool.false_and, Bool.and_false, if_true, if_false, Bool.false_eq_true, reduceIte, reduceCtorEq, opAdd, opSub, opMul, opDiv, opMod, opNeg, opI, opLt, opLe, opGt, opGe, opEq, opNe, opEq_int, opIs, opIsnot, opIsB, isNonP, opIx, opLen, opTuple, opList, opInt, opAbs, opStr, opSum, opMax, opMin, opMM, opAny, opAll, opAA, asSeq, asLst, top, frSeq, kdP, isa, id_eq, Option.map_some, Option.bind_some]
      rw [comp_all (fun x : Int => PV.int x) (fun x => PV.int (q.1 * x)) (fun x hx => ⟨_, rfl, ?_⟩)]
      · simp only [ev_var, ev_any, ev_c, ev_bin, ev_binF, ev_chain, ev_un, ev_cons, ev_nil, ev_tup, ev_disp, ev_lst, ev_glo, ev_callB, ev_callF, ev_call, ev_if, ev_sl, ev_oN, ev_oS, ev_rev, ev_isa, ev_tOf, ev_tAnd, ev_tOr, ev_tNot, ev_andV, ev_orV, ev_notV, ev_upper, ev_yes, ev_comp, wipeE, notOwn, List.all_cons, List.all_nil, ev_range1, ev_range2, ev_isq, ev_zip2, ev_zip3, ev_enum, optR_some, bind_ok, Sat_ok, Sat_bind, List.getElem?_cons_zero, List.getElem?_cons_succ, List.set_cons_zero, List.set_cons_succ, List.length_cons, List.length_nil, Bool.true_and, Bool.and_true, Bool.and_self, Bool.or_true, Bool.true_or, Bool.false_or, Bool.or_false, Bool.not_true, Bool.not_false, Bool.false_and, Bool.and_false, if_true, if_false, Bool.false_eq_true, reduceIte, reduceCtorEq, opAdd, opSub, opMul, opDiv, opMod, opNeg, opI, opLt, opLe, opGt, opGe, opEq, opNe, opEq_int, opIs, opIsnot, opIsB, isNonP, opIx, opLen, opTuple, opList, opInt, opAbs, opStr, opSum, opMax, opMin, opMM, opAny, opAll, opAA, asSeq, asLst, top, frSeq, kdP, isa, id_eq, Option.map_some, Option.bind_some]
        have e1 : (PV.tup (q.2.1.map fun x => PV.int (q.1 * x))) = ti (mulL q.1 q.2.1) := by unfold mulL ti; rw [List.map_map]; rfl
        rw [e1, plus_eq]
        simp only [ev_var, ev_any, ev_c, ev_bin, ev_binF, ev_chain, ev_un, ev_cons, ev_nil, ev_tup, ev_disp, ev_lst, ev_glo, ev_callB, ev_callF, ev_call, ev_if, ev_sl, ev_oN, ev_oS, ev_rev, ev_isa, ev_tOf, ev_tAnd, ev_tOr, ev_tNot, ev_andV, ev_orV, ev_notV, ev_upper, ev_yes, ev_comp, wipeE, notOwn, List.all_cons, List.all_nil, ev_range1, ev_range2, ev_isq, ev_zip2, ev_zip3, ev_enum, optR_some, bind_ok, Sat_ok, Sat_bind, List.getElem?_cons_zero, List.getElem?_cons_succ, List.set_cons_zero, List.set_cons_succ, List.length_cons, List.length_nil, Bool.true_and, Bool.and_true, Bool.and_self, Bool.or_true, Bool.true_or, Bool.false_or, Bool.or_false, Bool.not_true, Bool.not_false, Bool.false_and, Bool.and_false, if_true, if_false, Bool.false_eq_true, reduceIte, reduceCtorEq]
        rw [take_succ_some hq, List.foldl_append]
        exact ⟨trivial, _, _, _, rfl⟩
      · simp only [ev_var, ev_any, ev_c, ev_bin, ev_binF, ev_chain, ev_un, ev_cons, ev_nil, ev_tup, ev_disp, ev_lst, ev_glo, ev_callB, ev_callF, ev_call, ev_if, ev_sl, ev_oN, ev_oS, ev_rev, ev_isa, ev_tOf, ev_tAnd, ev_tOr, ev_tNot, ev_andV, ev_orV, ev_notV, ev_upper, ev_yes, ev_comp, wipeE, notOwn, List.all_cons, List.all_nil, ev_range1, ev_range2, ev_isq, ev_zip2, ev_zip3, ev_enum, optR_some, bind_ok, Sat_ok, Sat_bind, List.getElem?_cons_zero, List.getElem?_cons_succ, List.set_cons_zero, List.set_cons_succ, List.length_cons, List.length_nil, Bool.true_and, Bool.and_true, Bool.and_self, Bool.or_true, Bool.true_or, Bool.false_or, Bool.or_false, Bool.not_true, Bool.not_false, Bool.false_and, Bool.and_false, if_true, if_false, Bool.false_eq_true, reduceIte, reduceCtorEq, opAdd, opSub, opMul, opDiv, opMod, opNeg, opI, opLt, opLe, opGt, opGe, opEq, opNe, opEq_int, opIs, opIsnot, opIsB, isNonP, opIx, opLen, opTuple, opList, opInt, opAbs, opStr, opSum, opMax, opMin, opMM, opAny, opAll, opAA, asSeq, asLst, top, frSeq, kdP, isa, id_eq, Option.map_some, Option.bind_some, small_mul ((N.d1 q.2 hd).nn x hx)]
  · rintro e g' ⟨rfl, s3, s4, s5, rfl⟩
    refine SatS.ret ?_
    simp only [ev_var, ev_any, ev_c, ev_bin, ev_binF, ev_chain, ev_un, ev_cons, ev_nil, ev_tup, ev_disp, ev_lst, ev_glo, ev_callB, ev_callF, ev_call, ev_if, ev_sl, ev_oN, ev_oS, ev_rev, ev_isa, ev_tOf, ev_tAnd, ev_tOr, ev_tNot, ev_andV, ev_orV, ev_notV, ev_upper, ev_yes, ev_comp, wipeE, notOwn, List.all_cons, List.all_nil, ev_range1, ev_range2, ev_isq, ev_zip2, ev_zip3, ev_enum, optR_some, bind_ok, Sat_ok, Sat_bind, List.getElem?_cons_zero, List.getElem?_cons_succ, List.set_cons_zero, List.set_cons_succ, List.length_cons, List.length_nil, Bool.true_and, Bool.and_true, Bool.and_self, Bool.or_true, Bool.true_or, Bool.false_or, Bool.or_false, Bool.not_true, Bool.not_false, Bool.false_and, Bool.and_false, if_true, if_false, Bool.false_eq_true, reduceIte, reduceCtorEq]
    rw [List.length_map, List.take_length]
    exact ⟨by first | trivial | rfl, by first | trivial | rfl⟩
theorem given_eq {n : Nat} {ds : List (List Int × List Int)} (N : NetOk n ds) (step : List Int) (g : G) : Fgiven_by [netP n ds, ti step] g = .ok (ti (takenL (·.2) n step ds)) g := by
  have hn5 := N.n5
  have c1 : decide ((-1000 : Int) ≤ n) = true := decide_eq_true (by omega)
  have c2 : decide ((n : Int) ≤ 1000) = true := decide_eq_true (by omega)
  apply eq_of_sat
  refine satFn rfl ?_
  show SatS (Bgiven_by [.val (netP n ds), .val (ti step), .un, .un, .un, .un, .un] g) _ _
  refine SatS.seq (SatS.set ?_)
  simp only [ev_var, ev_any, ev_c, ev_bin, ev_binF, ev_chain, ev_un, ev_cons, ev_nil, ev_tup, ev_disp, ev_lst, ev_glo, ev_callB, ev_callF, ev_call, ev_if, ev_sl, ev_oN, ev_oS, ev_rev, ev_isa, ev_tOf, ev_tAnd, ev_tOr, ev_tNot, ev_andV, ev_orV, ev_notV, ev_upper, ev_yes, ev_comp, wipeE, notOwn, List.all_cons, List.all_nil, ev_range1, ev_range2, ev_isq, ev_zip2, ev_zip3, ev_enum, optR_some, bind_ok, Sat_ok, Sat_bind, List.getElem?_cons_zero, List.getElem?_cons_succ, List.set_cons_zero, List.set_cons_succ, List.length_cons, List.length_nil, Bool.true_and, Bool.and_true, Bool.and_self, Bool.or_true, Bool.true_or, Bool.false_or, Bool.or_false, Bool.not_true, Bool.not_false, Bool.false_and, Bool.and_false, if_true, if_false, Bool.false_eq_true, reduceIte, reduceCtorEq, opAdd, opSub, opMul, opDiv, opMod, opNeg, opI, opLt, opLe, opGt, opGe, opEq, opNe, opEq_int, opIs, opIsnot, opIsB, isNonP, opIx, opLen, opTuple, opList, opInt, opAbs, opStr, opSum, opMax, opMin, opMM, opAny, opAll, opAA, asSeq, asLst, top, frSeq, kdP, isa, id_eq, Option.map_some, Option.bind_some, fits1000 (show 1 ≤ 1000000 by omega), show atI [PV.int n, PV.tup (ds.map dp)] 0 = some (PV.int n) from rfl, c1, c2, show Nat.ble 1 1000 = true from rfl, Int.toNat_natCast, rep_zero]
  refine SatS.seq (SatS.for_ ?_)
  simp only [ev_var, ev_any, ev_c, ev_bin, ev_binF, ev_chain, ev_un, ev_cons, ev_nil, ev_tup, ev_disp, ev_lst, ev_glo, ev_callB, ev_callF, ev_call, ev_if, ev_sl, ev_oN, ev_oS, ev_rev, ev_isa, ev_tOf, ev_tAnd, ev_tOr, ev_tNot, ev_andV, ev_orV, ev_notV, ev_upper, ev_yes, ev_comp, wipeE, notOwn, List.all_cons, List.all_nil, ev_range1, ev_range2, ev_isq, ev_zip2, ev_zip3, ev_enum, optR_some, bind_ok, Sat_ok, Sat_bind, List.getElem?_cons_zero, List.getElem?_cons_succ, List.set_cons_zero, List.set_cons_succ, List.length_cons, List.length_nil, Bool.true_and, Bool.and_true, Bool.and_self, Bool.or_true, Bool.true_or, Bool.false_or, Bool.or_false, Bool.not_true, Bool.not_false, Bool.false_and, Bool.and_false, if_true, if_false, Bool.false_eq_true, reduceIte, reduceCtorEq, opAdd, opSub, opMul, opDiv, opMod, opNeg, opI, opLt, opLe, opGt, opGe, opEq, opNe, opEq_int, opIs, opIsnot, opIsB, isNonP, opIx, opLen, opTuple, opList, opInt, opAbs, opStr, opSum, opMax, opMin, opMM, opAny, opAll, opAA, asSeq, asLst, top, frSeq, kdP, isa, id_eq, Option.map_some, Option.bind_some, show atI [PV.int n, PV.tup (ds.map dp)] 1 = some (PV.tup (ds.map dp)) from rfl]
  rw [zip_map]
  refine sat_for (fun k e g' => g' = g ∧ ∃ s3 s4 s5 : SV, e = [.val (netP n ds), .val (ti step), .val (ti (((step.zip ds).take k).foldl (fun acc q => addL acc (mulL q.1 q.2.2)) (List.replicate n 0))), s3, s4, s5, .un]) ?_ ?_ ⟨rfl, _, _, _, rfl⟩
  · rintro k x e g' hx ⟨rfl, s3, s4, s5, rfl⟩
    rw [List.getElem?_map] at hx
    cases hq : (step.zip ds)[k]? with
    | none => rw [hq] at hx; cases hx
    | some q =>
      rw [hq] at hx; cases hx
      have hd := (List.of_mem_zip (List.mem_of_getElem? hq : (q.1, q.2) ∈ step.zip ds)).2
      refine ⟨_, rfl, SatS.set ?_⟩
      simp only [ev_var, ev_any, ev_c, ev_bin, ev_binF, ev_chain, ev_un, ev_cons, ev_nil, ev_tup, ev_disp, ev_lst, ev_glo, ev_callB, ev_callF, ev_call, ev_if, ev_sl, ev_oN, ev_oS, ev_rev, ev_isa, ev_tOf, ev_tAnd, ev_tOr, ev_tNot, ev_andV, ev_orV, ev_notV, ev_upper, ev_yes, ev_comp, wipeE, notOwn, List.all_cons, List.all_nil, ev_range1, ev_range2, ev_isq, ev_zip2, ev_zip3, ev_enum, optR_some, bind_ok, Sat_ok, Sat_bind, List.getElem?_cons_zero, List.getElem?_cons_succ, List.set_cons_zero, List.set_cons_succ, List.length_cons, List.length_nil, Bool.true_and, Bool.and_true, Bool.and_self, Bool.or_true, Bool.true_or, Bool.false_or, Bool.or_false, Bool.not_true, Bool.not_false, Bool.false_and, Bool.and_false, if_true, if_false, Bool.false_eq_true, reduceIte, reduceCtorEq, opAdd, opSub, opMul, opDiv, opMod, opNeg, opI, opLt, opLe, opGt, opGe, opEq, opNe, opEq_int, opIs, opIsnot, opIsB, isNonP, opIx, opLen, opTuple, opList, opInt, opAbs, opStr, opSum, opMax, opMin, opMM, opAny, opAll, opAA, asSeq, asLst, top, frSeq, kdP, isa, id_eq, Option.map_some, Option.bind_some]
      rw [comp_all (fun x : Int => PV.int x) (fun x => PV.int (q.1 * x)) (fun x hx => ⟨_, rfl, ?_⟩)]
      · simp only [ev_var, ev_any, ev_c, ev_bin, ev_binF, ev_chain, ev_un, ev_cons, ev_nil, ev_tup, ev_disp, ev_lst, ev_glo, ev_callB, ev_callF, ev_call, ev_if, ev_sl, ev_oN, ev_oS, ev_rev, ev_isa, ev_tOf, ev_tAnd, ev_tOr, ev_tNot, ev_andV, ev_orV, ev_notV, ev_upper, ev_yes, ev_comp, wipeE, notOwn, List.all_cons, List.all_nil, ev_range1, ev_range2, ev_isq, ev_zip2, ev_zip3, ev_enum, optR_some, bind_ok, Sat_ok, Sat_bind, List.getElem?_cons_zero, List.getElem?_cons_succ, List.set_cons_zero, List.set_cons_succ, List.length_cons, List.length_nil, Bool.true_and, Bool.and_true, Bool.and_self, Bool.or_true, Bool.true_or, Bool.false_or, Bool.or_false, Bool.not_true, Bool.not_false, Bool.false_and, Bool.and_false, if_true, if_false, Bool.false_eq_true, reduceIte, reduceCtorEq, opAdd, opSub, opMul, opDiv, opMod, opNeg, opI, opLt, opLe, opGt, opGe, opEq, opNe, opEq_int, opIs, opIsnot, opIsB, isNonP, opIx, opLen, opTuple, opList, opInt, opAbs, opStr, opSum, opMax, opMin, opMM, opAny, opAll, opAA, asSeq, asLst, top, frSeq, kdP, isa, id_eq, Option.map_some, Option.bind_some]
        have e1 : (PV.tup (q.2.2.map fun x => PV.int (q.1 * x))) = ti (mulL q.1 q.2.2) := by unfold mulL ti; rw [List.map_map]; rfl
        rw [e1, plus_eq]
        simp only [ev_var, ev_any, ev_c, ev_bin, ev_binF, ev_chain, ev_un, ev_cons, ev_nil, ev_tup, ev_disp, ev_lst, ev_glo, ev_callB, ev_callF, ev_call, ev_if, ev_sl, ev_oN, ev_oS, ev_rev, ev_isa, ev_tOf, ev_tAnd, ev_tOr, ev_tNot, ev_andV, ev_orV, ev_notV, ev_upper, ev_yes, ev_comp, wipeE, notOwn, List.all_cons, List.all_nil, ev_range1, ev_range2, ev_isq, ev_zip2, ev_zip3, ev_enum, optR_some, bind_ok, Sat_ok, Sat_bind, List.getElem?_cons_zero, List.getElem?_cons_succ, List.set_cons_zero, List.set_cons_succ, List.length_cons, List.length_nil, Bool.true_and, Bool.and_true, Bool.and_self, Bool.or_true, Bool.true_or, Bool.false_or, Bool.or_false, Bool.not_true, Bool.not_false, Bool.false_and, Bool.and_false, if_true, if_false, Bool.false_eq_true, reduceIte, reduceCtorEq]
        rw [take_succ_some hq, List.foldl_append]
        exact ⟨trivial, _, _, _, rfl⟩
      · simp only [ev_var, ev_any, ev_c, ev_bin, ev_binF, ev_chain, ev_un, ev_cons, ev_nil, ev_tup, ev_disp, ev_lst, ev_glo, ev_callB, ev_callF, ev_call, ev_if, ev_sl, ev_oN, ev_oS, ev_rev, ev_isa, ev_tOf, ev_tAnd, ev_tOr, ev_tNot, ev_andV, ev_orV, ev_notV, ev_upper, ev_yes, ev_comp, wipeE, notOwn, List.all_cons, List.all_nil, ev_range1, ev_range2, ev_isq, ev_zip2, ev_zip3, ev_enum, optR_some, bind_ok, Sat_ok, Sat_bind, List.getElem?_cons_zero, List.getElem?_cons_succ, List.set_cons_zero, List.set_cons_succ, List.length_cons, List.length_nil, Bool.true_and, Bool.and_true, Bool.and_self, Bool.or_true, Bool.true_or, Bool.false_or, Bool.or_false, Bool.not_true, Bool.not_false, Bool.false_and, Bool.and_false, if_true, if_false, Bool.false_eq_true, reduceIte, reduceCtorEq, opAdd, opSub, opMul, opDiv, opMod, opNeg, opI, opLt, opLe, opGt, opGe, opEq, opNe, opEq_int, opIs, opIsnot, opIsB, isNonP, opIx, opLen, opTuple, opList, opInt, opAbs, opStr, opSum, opMax, opMin, opMM, opAny, opAll, opAA, asSeq, asLst, top, frSeq, kdP, isa, id_eq, Option.map_some, Option.bind_some, small_mul ((N.d2 q.2 hd).nn x hx)]
  · rintro e g' ⟨rfl, s3, s4, s5, rfl⟩
    refine SatS.ret ?_
    simp only [ev_var, ev_any, ev_c, ev_bin, ev_binF, ev_chain, ev_un, ev_cons, ev_nil, ev_tup, ev_disp, ev_lst, ev_glo, ev_callB, ev_callF, ev_call, ev_if, ev_sl, ev_oN, ev_oS, ev_rev, ev_isa, ev_tOf, ev_tAnd, ev_tOr, ev_tNot, ev_andV, ev_orV, ev_notV, ev_upper, ev_yes, ev_comp, wipeE, notOwn, List.all_cons, List.all_nil, ev_range1, ev_range2, ev_isq, ev_zip2, ev_zip3, ev_enum, optR_some, bind_ok, Sat_ok, Sat_bind, List.getElem?_cons_zero, List.getElem?_cons_succ, List.set_cons_zero, List.set_cons_succ, List.length_cons, List.length_nil, Bool.true_and, Bool.and_true, Bool.and_self, Bool.or_true, Bool.true_or, Bool.false_or, Bool.or_false, Bool.not_true, Bool.not_false, Bool.false_and, Bool.and_false, if_true, if_false, Bool.false_eq_true, reduceIte, reduceCtorEq]
    rw [List.length_map, List.take_length]
    exact ⟨by first | trivial | rfl, by first | trivial | rfl⟩
theorem can_eq {n : Nat} {ds : List (List Int × List Int)} (N : NetOk n ds) (mk step : List Int) (g : G) : Fcan_step [netP n ds, ti mk, ti step] g = .ok (.bl (leB (takenL (·.1) n step ds) mk)) g := by
  apply eq_of_sat
  refine satFn rfl ?_
  show SatS (Bcan_step [.val (netP n ds), .val (ti mk), .val (ti step)] g) _ _
  refine SatS.ret ?_
  simp only [ev_var, ev_any, ev_c, ev_bin, ev_binF, ev_chain, ev_un, ev_cons, ev_nil, ev_tup, ev_disp, ev_lst, ev_glo, ev_callB, ev_callF, ev_call, ev_if, ev_sl, ev_oN, ev_oS, ev_rev, ev_isa, ev_tOf, ev_tAnd, ev_tOr, ev_tNot, ev_andV, ev_orV, ev_notV, ev_upper, ev_yes, ev_comp, wipeE, notOwn, List.all_cons, List.all_nil, ev_range1, ev_range2, ev_isq, ev_zip2, ev_zip3, ev_enum, optR_some, bind_ok, Sat_ok, Sat_bind, List.getElem?_cons_zero, List.getElem?_cons_succ, List.set_cons_zero, List.set_cons_succ, List.length_cons, List.length_nil, Bool.true_and, Bool.and_true, Bool.and_self, Bool.or_true, Bool.true_or, Bool.false_or, Bool.or_false, Bool.not_true, Bool.not_false, Bool.false_and, Bool.and_false, if_true, if_false, Bool.false_eq_true, reduceIte, reduceCtorEq]
  rw [taken_eq N]
  simp only [ev_var, ev_any, ev_c, ev_bin, ev_binF, ev_chain, ev_un, ev_cons, ev_nil, ev_tup, ev_disp, ev_lst, ev_glo, ev_callB, ev_callF, ev_call, ev_if, ev_sl, ev_oN, ev_oS, ev_rev, ev_isa, ev_tOf, ev_tAnd, ev_tOr, ev_tNot, ev_andV, ev_orV, ev_notV, ev_upper, ev_yes, ev_comp, wipeE, notOwn, List.all_cons, List.all_nil, ev_range1, ev_range2, ev_isq, ev_zip2, ev_zip3, ev_enum, optR_some, bind_ok, Sat_ok, Sat_bind, List.getElem?_cons_zero, List.getElem?_cons_succ, List.set_cons_zero, List.set_cons_succ, List.length_cons, List.length_nil, Bool.true_and, Bool.and_true, Bool.and_self, Bool.or_true, Bool.true_or, Bool.false_or, Bool.or_false, Bool.not_true, Bool.not_false, Bool.false_and, Bool.and_false, if_true, if_false, Bool.false_eq_true, reduceIte, reduceCtorEq]
  rw [within_eq]
  exact ⟨by first | trivial | rfl, by first | trivial | rfl⟩
def stepL (mk t u : List Int) : List Int := (mk.zip (t.zip u)).map fun q => q.1 - q.2.1 + q.2.2
theorem behind_eq {n : Nat} {ds : List (List Int × List Int)} (N : NetOk n ds) (mk step : List Int) (g : G) : Fbehind_step [netP n ds, ti mk, ti step] g = .ok (if leB (takenL (·.1) n step ds) mk then ti (stepL mk (takenL (·.1) n step ds) (takenL (·.2) n step ds)) else .non) g := by
  apply eq_of_sat
  refine satFn rfl ?_
  show SatS (Bbehind_step [.val (netP n ds), .val (ti mk), .val (ti step), .un, .un, .un] g) _ _
  refine SatS.seq (SatS.ite ?_)
  simp only [ev_var, ev_any, ev_c, ev_bin, ev_binF, ev_chain, ev_un, ev_cons, ev_nil, ev_tup, ev_disp, ev_lst, ev_glo, ev_callB, ev_callF, ev_call, ev_if, ev_sl, ev_oN, ev_oS, ev_rev, ev_isa, ev_tOf, ev_tAnd, ev_tOr, ev_tNot, ev_andV, ev_orV, ev_notV, ev_upper, ev_yes, ev_comp, wipeE, notOwn, List.all_cons, List.all_nil, ev_range1, ev_range2, ev_isq, ev_zip2, ev_zip3, ev_enum, optR_some, bind_ok, Sat_ok, Sat_bind, List.getElem?_cons_zero, List.getElem?_cons_succ, List.set_cons_zero, List.set_cons_succ, List.length_cons, List.length_nil, Bool.true_and, Bool.and_true, Bool.and_self, Bool.or_true, Bool.true_or, Bool.false_or, Bool.or_false, Bool.not_true, Bool.not_false, Bool.false_and, Bool.and_false, if_true, if_false, Bool.false_eq_true, reduceIte, reduceCtorEq]
  rw [can_eq N]
  simp only [ev_var, ev_any, ev_c, ev_bin, ev_binF, ev_chain, ev_un, ev_cons, ev_nil, ev_tup, ev_disp, ev_lst, ev_glo, ev_callB, ev_callF, ev_call, ev_if, ev_sl, ev_oN, ev_oS, ev_rev, ev_isa, ev_tOf, ev_tAnd, ev_tOr, ev_tNot, ev_andV, ev_orV, ev_notV, ev_upper, ev_yes, ev_comp, wipeE, notOwn, List.all_cons, List.all_nil, ev_range1, ev_range2, ev_isq, ev_zip2, ev_zip3, ev_enum, optR_some, bind_ok, Sat_ok, Sat_bind, List.getElem?_cons_zero, List.getElem?_cons_succ, List.set_cons_zero, List.set_cons_succ, List.length_cons, List.length_nil, Bool.true_and, Bool.and_true, Bool.and_self, Bool.or_true, Bool.true_or, Bool.false_or, Bool.or_false, Bool.not_true, Bool.not_false, Bool.false_and, Bool.and_false, if_true, if_false, Bool.false_eq_true, reduceIte, reduceCtorEq]
  cases hc : leB (takenL (·.1) n step ds) mk with
  | false =>
    refine SatS.ret ?_
    simp only [ev_var, ev_any, ev_c, ev_bin, ev_binF, ev_chain, ev_un, ev_cons, ev_nil, ev_tup, ev_disp, ev_lst, ev_glo, ev_callB, ev_callF, ev_call, ev_if, ev_sl, ev_oN, ev_oS, ev_rev, ev_isa, ev_tOf, ev_tAnd, ev_tOr, ev_tNot, ev_andV, ev_orV, ev_notV, ev_upper, ev_yes, ev_comp, wipeE, notOwn, List.all_cons, List.all_nil, ev_range1, ev_range2, ev_isq, ev_zip2, ev_zip3, ev_enum, optR_some, bind_ok, Sat_ok, Sat_bind, List.getElem?_cons_zero, List.getElem?_cons_succ, List.set_cons_zero, List.set_cons_succ, List.length_cons, List.length_nil, Bool.true_and, Bool.and_true, Bool.and_self, Bool.or_true, Bool.true_or, Bool.false_or, Bool.or_false, Bool.not_true, Bool.not_false, Bool.false_and, Bool.and_false, if_true, if_false, Bool.false_eq_true, reduceIte, reduceCtorEq]
    exact ⟨by first | trivial | rfl, by first | trivial | rfl⟩
  | true =>
    refine SatS.nil (SatS.ret ?_)
    simp only [ev_var, ev_any, ev_c, ev_bin, ev_binF, ev_chain, ev_un, ev_cons, ev_nil, ev_tup, ev_disp, ev_lst, ev_glo, ev_callB, ev_callF, ev_call, ev_if, ev_sl, ev_oN, ev_oS, ev_rev, ev_isa, ev_tOf, ev_tAnd, ev_tOr, ev_tNot, ev_andV, ev_orV, ev_notV, ev_upper, ev_yes, ev_comp, wipeE, notOwn, List.all_cons, List.all_nil, ev_range1, ev_range2, ev_isq, ev_zip2, ev_zip3, ev_enum, optR_some, bind_ok, Sat_ok, Sat_bind, List.getElem?_cons_zero, List.getElem?_cons_succ, List.set_cons_zero, List.set_cons_succ, List.length_cons, List.length_nil, Bool.true_and, Bool.and_true, Bool.and_self, Bool.or_true, Bool.true_or, Bool.false_or, Bool.or_false, Bool.not_true, Bool.not_false, Bool.false_and, Bool.and_false, if_true, if_false, Bool.false_eq_true, reduceIte, reduceCtorEq]
    rw [taken_eq N]
    simp only [ev_var, ev_any, ev_c, ev_bin, ev_binF, ev_chain, ev_un, ev_cons, ev_nil, ev_tup, ev_disp, ev_lst, ev_glo, ev_callB, ev_callF, ev_call, ev_if, ev_sl, ev_oN, ev_oS, ev_rev, ev_isa, ev_tOf, ev_tAnd, ev_tOr, ev_tNot, ev_andV, ev_orV, ev_notV, ev_upper, ev_yes, ev_comp, wipeE, notOwn, List.all_cons, List.all_nil, ev_range1, ev_range2, ev_isq, ev_zip2, ev_zip3, ev_enum, optR_some, bind_ok, Sat_ok, Sat_bind, List.getElem?_cons_zero, List.getElem?_cons_succ, List.set_cons_zero, List.set_cons_succ, List.length_cons, List.length_nil, Bool.true_and, Bool.and_true, Bool.and_self, Bool.or_true, Bool.true_or, Bool.false_or, Bool.or_false, Bool.not_true, Bool.not_false, Bool.false_and, Bool.and_false, if_true, if_false, Bool.false_eq_true, reduceIte, reduceCtorEq]
    rw [given_eq N]
    simp only [ev_var, ev_any, ev_c, ev_bin, ev_binF, ev_chain, ev_un, ev_cons, ev_nil, ev_tup, ev_disp, ev_lst, ev_glo, ev_callB, ev_callF, ev_call, ev_if, ev_sl, ev_oN, ev_oS, ev_rev, ev_isa, ev_tOf, ev_tAnd, ev_tOr, ev_tNot, ev_andV, ev_orV, ev_notV, ev_upper, ev_yes, ev_comp, wipeE, notOwn, List.all_cons, List.all_nil, ev_range1, ev_range2, ev_isq, ev_zip2, ev_zip3, ev_enum, optR_some, bind_ok, Sat_ok, Sat_bind, List.getElem?_cons_zero, List.getElem?_cons_succ, List.set_cons_zero, List.set_cons_succ, List.length_cons, List.length_nil, Bool.true_and, Bool.and_true, Bool.and_self, Bool.or_true, Bool.true_or, Bool.false_or, Bool.or_false, Bool.not_true, Bool.not_false, Bool.false_and, Bool.and_false, if_true, if_false, Bool.false_eq_true, reduceIte, reduceCtorEq, opAdd, opSub, opMul, opDiv, opMod, opNeg, opI, opLt, opLe, opGt, opGe, opEq, opNe, opEq_int, opIs, opIsnot, opIsB, isNonP, opIx, opLen, opTuple, opList, opInt, opAbs, opStr, opSum, opMax, opMin, opMM, opAny, opAll, opAA, asSeq, asLst, top, frSeq, kdP, isa, id_eq, Option.map_some, Option.bind_some]
    rw [zip_map3, comp_all (fun q : Int × Int × Int => .tup [.int q.1, .int q.2.1, .int q.2.2]) (fun q => PV.int (q.1 - q.2.1 + q.2.2)) (fun q _ => ⟨_, rfl, rfl⟩)]
    simp only [ev_var, ev_any, ev_c, ev_bin, ev_binF, ev_chain, ev_un, ev_cons, ev_nil, ev_tup, ev_disp, ev_lst, ev_glo, ev_callB, ev_callF, ev_call, ev_if, ev_sl, ev_oN, ev_oS, ev_rev, ev_isa, ev_tOf, ev_tAnd, ev_tOr, ev_tNot, ev_andV, ev_orV, ev_notV, ev_upper, ev_yes, ev_comp, wipeE, notOwn, List.all_cons, List.all_nil, ev_range1, ev_range2, ev_isq, ev_zip2, ev_zip3, ev_enum, optR_some, bind_ok, Sat_ok, Sat_bind, List.getElem?_cons_zero, List.getElem?_cons_succ, List.set_cons_zero, List.set_cons_succ, List.length_cons, List.length_nil, Bool.true_and, Bool.and_true, Bool.and_self, Bool.or_true, Bool.true_or, Bool.false_or, Bool.or_false, Bool.not_true, Bool.not_false, Bool.false_and, Bool.and_false, if_true, if_false, Bool.false_eq_true, reduceIte, reduceCtorEq, opAdd, opSub, opMul, opDiv, opMod, opNeg, opI, opLt, opLe, opGt, opGe, opEq, opNe, opEq_int, opIs, opIsnot, opIsB, isNonP, opIx, opLen, opTuple, opList, opInt, opAbs, opStr, opSum, opMax, opMin, opMM, opAny, opAll, opAA, asSeq, asLst, top, frSeq, kdP, isa, id_eq, Option.map_some, Option.bind_some]
    refine ⟨?_, trivial⟩
    unfold stepL ti
    rw [List.map_map]; rfl

def sdf (b : Bool) (d : List Int × List Int) : List Int := if b then d.2 else d.1
theorem atI_dp (b : Bool) (d : List Int × List Int) : atI [ti d.1, ti d.2] (if b then 1 else 0) = some (ti (sdf b d)) := by cases b <;> rfl
theorem range_add {n : Nat} {a b : List Int} {m : Int} (ha : a.length = n) (hb : b.length = n) : (List.range n).map (fun k => PV.int (a.getD k 0 + m * b.getD k 0)) = (addL a (mulL m b)).map .int := by
  unfold addL mulL
  rw [List.map_map]
  apply List.ext_getElem?
  intro k
  rw [List.getElem?_map, List.getElem?_map]
  by_cases hk : k < n
  · have e1 := List.getElem?_eq_getElem (show k < a.length by omega)
    have e2 := List.getElem?_eq_getElem (show k < b.length by omega)
    have e3 : (a.zip (b.map fun x => m * x))[k]? = some (a[k]'(by omega), m * b[k]'(by omega)) := by
      rw [List.getElem?_zip_eq_some]
      exact ⟨e1, by rw [List.getElem?_map, e2]; rfl⟩
    rw [List.getElem?_range hk, e3]
    simp only [Option.map_some, List.getD_eq_getElem?_getD, e1, e2, Option.getD_some, Function.comp]
  · have e3 : (a.zip (b.map fun x => m * x))[k]? = none := List.getElem?_eq_none (by rw [List.length_zip, List.length_map]; omega)
    rw [List.getElem?_eq_none (by rw [List.length_range]; omega), e3]; rfl
theorem deedAt {n : Nat} {ds : List (List Int × List Int)} {k : Nat} {d : List Int × List Int} (h : ds[k]? = some d) : atI (ds.map dp) (k : Int) = some (dp d) := by
  apply atI_nat
  rw [List.getElem?_map, h]; rfl
theorem ltaken_eq {n : Nat} {ds : List (List Int × List Int)} (N : NetOk n ds) (step : List Int) (hs : step.length ≤ ds.length) (b : Bool) (g : G) : F_law_taken [netP n ds, ti step, .int (if b then 1 else 0)] g = .ok (ti (takenL (sdf b) n step ds)) g := by
  have hn5 := N.n5
  have hm5 := N.m5
  have c1 : decide ((-1000 : Int) ≤ n) = true := decide_eq_true (by omega)
  have c2 : decide ((n : Int) ≤ 1000) = true := decide_eq_true (by omega)
  have sl : ∀ d ∈ ds, Side n (sdf b d) := fun d hd => by
    cases b
    · exact N.d1 d hd
    · exact N.d2 d hd
  apply eq_of_sat
  refine satFn rfl ?_
  show SatS (B_law_taken [.val (netP n ds), .val (ti step), .val (.int (if b then 1 else 0)), .un, .un, .un] g) _ _
  refine SatS.seq (SatS.set ?_)
  simp only [ev_var, ev_any, ev_c, ev_bin, ev_binF, ev_chain, ev_un, ev_cons, ev_nil, ev_tup, ev_disp, ev_lst, ev_glo, ev_callB, ev_callF, ev_call, ev_if, ev_sl, ev_oN, ev_oS, ev_rev, ev_isa, ev_tOf, ev_tAnd, ev_tOr, ev_tNot, ev_andV, ev_orV, ev_notV, ev_upper, ev_yes, ev_comp, wipeE, notOwn, List.all_cons, List.all_nil, ev_range1, ev_range2, ev_isq, ev_zip2, ev_zip3, ev_enum, optR_some, bind_ok, Sat_ok, Sat_bind, List.getElem?_cons_zero, List.getElem?_cons_succ, List.set_cons_zero, List.set_cons_succ, List.length_cons, List.length_nil, Bool.true_and, Bool.and_true, Bool.and_self, Bool.or_true, Bool.true_or, Bool.false_or, Bool.or_false, Bool.not_true, Bool.not_false, Bool.false_and, Bool.and_false, if_true, if_false, Bool.false_eq_true, reduceIte, reduceCtorEq, opAdd, opSub, opMul, opDiv, opMod, opNeg, opI, opLt, opLe, opGt, opGe, opEq, opNe, opEq_int, opIs, opIsnot, opIsB, isNonP, opIx, opLen, opTuple, opList, opInt, opAbs, opStr, opSum, opMax, opMin, opMM, opAny, opAll, opAA, asSeq, asLst, top, frSeq, kdP, isa, id_eq, Option.map_some, Option.bind_some, fits1000 (show 1 ≤ 1000000 by omega), show atI [PV.int n, PV.tup (ds.map dp)] 0 = some (PV.int n) from rfl, c1, c2, show Nat.ble 1 1000 = true from rfl, Int.toNat_natCast, rep_zero]
  refine SatS.seq (SatS.for_ ?_)
  simp only [ev_var, ev_any, ev_c, ev_bin, ev_binF, ev_chain, ev_un, ev_cons, ev_nil, ev_tup, ev_disp, ev_lst, ev_glo, ev_callB, ev_callF, ev_call, ev_if, ev_sl, ev_oN, ev_oS, ev_rev, ev_isa, ev_tOf, ev_tAnd, ev_tOr, ev_tNot, ev_andV, ev_orV, ev_notV, ev_upper, ev_yes, ev_comp, wipeE, notOwn, List.all_cons, List.all_nil, ev_range1, ev_range2, ev_isq, ev_zip2, ev_zip3, ev_enum, optR_some, bind_ok, Sat_ok, Sat_bind, List.getElem?_cons_zero, List.getElem?_cons_succ, List.set_cons_zero, List.set_cons_succ, List.length_cons, List.length_nil, Bool.true_and, Bool.and_true, Bool.and_self, Bool.or_true, Bool.true_or, Bool.false_or, Bool.or_false, Bool.not_true, Bool.not_false, Bool.false_and, Bool.and_false, if_true, if_false, Bool.false_eq_true, reduceIte, reduceCtorEq, opAdd, opSub, opMul, opDiv, opMod, opNeg, opI, opLt, opLe, opGt, opGe, opEq, opNe, opEq_int, opIs, opIsnot, opIsB, isNonP, opIx, opLen, opTuple, opList, opInt, opAbs, opStr, opSum, opMax, opMin, opMM, opAny, opAll, opAA, asSeq, asLst, top, frSeq, kdP, isa, id_eq, Option.map_some, Option.bind_some, List.length_map, rg1 (show (0 : Int) ≤ step.length by omega), rg2 (show (step.length : Int) ≤ 1000000 by omega)]
  refine sat_for (fun k e g' => g' = g ∧ ∃ (s4 : SV) (tot : List Int), tot.length = n ∧ tot = (((step.zip ds).take k).foldl (fun acc q => addL acc (mulL q.1 (sdf b q.2))) (List.replicate n 0)) ∧ e = [.val (netP n ds), .val (ti step), .val (.int (if b then 1 else 0)), .val (.lst (tot.map .int)), s4, .un]) ?_ ?_ ⟨rfl, _, List.replicate n 0, List.length_replicate, rfl, rfl⟩
  · rintro k x e g' hx ⟨rfl, s4, tot, htl, htot, rfl⟩
    obtain ⟨rfl, hk, hk'⟩ := range_at hx
    rw [Int.toNat_natCast] at hk'
    have hd0 := List.getElem?_eq_getElem (show k < ds.length by omega)
    have hs0 := List.getElem?_eq_getElem hk'
    obtain ⟨z1, z2⟩ := sl _ (List.getElem_mem (show k < ds.length by omega))
    refine ⟨_, rfl, SatS.set ?_⟩
    simp only [ev_var, ev_any, ev_c, ev_bin, ev_binF, ev_chain, ev_un, ev_cons, ev_nil, ev_tup, ev_disp, ev_lst, ev_glo, ev_callB, ev_callF, ev_call, ev_if, ev_sl, ev_oN, ev_oS, ev_rev, ev_isa, ev_tOf, ev_tAnd, ev_tOr, ev_tNot, ev_andV, ev_orV, ev_notV, ev_upper, ev_yes, ev_comp, wipeE, notOwn, List.all_cons, List.all_nil, ev_range1, ev_range2, ev_isq, ev_zip2, ev_zip3, ev_enum, optR_some, bind_ok, Sat_ok, Sat_bind, List.getElem?_cons_zero, List.getElem?_cons_succ, List.set_cons_zero, List.set_cons_succ, List.length_cons, List.length_nil, Bool.true_and, Bool.and_true, Bool.and_self, Bool.or_true, Bool.true_or, Bool.false_or, Bool.or_false, Bool.not_true, Bool.not_false, Bool.false_and, Bool.and_false, if_true, if_false, Bool.false_eq_true, reduceIte, reduceCtorEq, opAdd, opSub, opMul, opDiv, opMod, opNeg, opI, opLt, opLe, opGt, opGe, opEq, opNe, opEq_int, opIs, opIsnot, opIsB, isNonP, opIx, opLen, opTuple, opList, opInt, opAbs, opStr, opSum, opMax, opMin, opMM, opAny, opAll, opAA, asSeq, asLst, top, frSeq, kdP, isa, id_eq, Option.map_some, Option.bind_some, show atI [PV.int n, PV.tup (ds.map dp)] 0 = some (PV.int n) from rfl, rg1 (show (0 : Int) ≤ n by omega), rg2 (show (n : Int) ≤ 1000000 by omega)]
    rw [map_range, comp_all (fun j : Nat => PV.int (j : Nat)) (fun j => PV.int (tot.getD j 0 + step[k] * (sdf b ds[k]).getD j 0)) (fun j hj => ⟨_, rfl, ?_⟩)]
    · rw [range_add htl z1]
      simp only [ev_var, ev_any, ev_c, ev_bin, ev_binF, ev_chain, ev_un, ev_cons, ev_nil, ev_tup, ev_disp, ev_lst, ev_glo, ev_callB, ev_callF, ev_call, ev_if, ev_sl, ev_oN, ev_oS, ev_rev, ev_isa, ev_tOf, ev_tAnd, ev_tOr, ev_tNot, ev_andV, ev_orV, ev_notV, ev_upper, ev_yes, ev_comp, wipeE, notOwn, List.all_cons, List.all_nil, ev_range1, ev_range2, ev_isq, ev_zip2, ev_zip3, ev_enum, optR_some, bind_ok, Sat_ok, Sat_bind, List.getElem?_cons_zero, List.getElem?_cons_succ, List.set_cons_zero, List.set_cons_succ, List.length_cons, List.length_nil, Bool.true_and, Bool.and_true, Bool.and_self, Bool.or_true, Bool.true_or, Bool.false_or, Bool.or_false, Bool.not_true, Bool.not_false, Bool.false_and, Bool.and_false, if_true, if_false, Bool.false_eq_true, reduceIte, reduceCtorEq]
      refine ⟨trivial, _, addL tot (mulL step[k] (sdf b ds[k])), ?_, ?_, rfl⟩
      · rw [addL_len (by rw [mulL_len, htl, z1])]; exact htl
      · have hz : (step.zip ds)[k]? = some (step[k], ds[k]) := List.getElem?_zip_eq_some.mpr ⟨hs0, hd0⟩
        rw [take_succ_some hz, List.foldl_append, ← htot]; rfl
    · have hj := List.mem_range.mp hj
      have j1 : j < tot.length := by omega
      have j2 : j < (sdf b ds[k]).length := by omega
      have sm := small_mul (x := step[k]) (z2 _ (List.getElem_mem j2))
      simp only [ev_var, ev_any, ev_c, ev_bin, ev_binF, ev_chain, ev_un, ev_cons, ev_nil, ev_tup, ev_disp, ev_lst, ev_glo, ev_callB, ev_callF, ev_call, ev_if, ev_sl, ev_oN, ev_oS, ev_rev, ev_isa, ev_tOf, ev_tAnd, ev_tOr, ev_tNot, ev_andV, ev_orV, ev_notV, ev_upper, ev_yes, ev_comp, wipeE, notOwn, List.all_cons, List.all_nil, ev_range1, ev_range2, ev_isq, ev_zip2, ev_zip3, ev_enum, optR_some, bind_ok, Sat_ok, Sat_bind, List.getElem?_cons_zero, List.getElem?_cons_succ, List.set_cons_zero, List.set_cons_succ, List.length_cons, List.length_nil, Bool.true_and, Bool.and_true, Bool.and_self, Bool.or_true, Bool.true_or, Bool.false_or, Bool.or_false, Bool.not_true, Bool.not_false, Bool.false_and, Bool.and_false, if_true, if_false, Bool.false_eq_true, reduceIte, reduceCtorEq, opAdd, opSub, opMul, opDiv, opMod, opNeg, opI, opLt, opLe, opGt, opGe, opEq, opNe, opEq_int, opIs, opIsnot, opIsB, isNonP, opIx, opLen, opTuple, opList, opInt, opAbs, opStr, opSum, opMax, opMin, opMM, opAny, opAll, opAA, asSeq, asLst, top, frSeq, kdP, isa, id_eq, Option.map_some, Option.bind_some, show atI [PV.int n, PV.tup (ds.map dp)] 1 = some (PV.tup (ds.map dp)) from rfl, deedAt (n := n) hd0, atI_dp, getI j1, getI j2, getI hk', sm]
      rw [List.getD_eq_getElem?_getD, List.getD_eq_getElem?_getD, List.getElem?_eq_getElem j1, List.getElem?_eq_getElem j2]; rfl
  · rintro e g' ⟨rfl, s4, tot, htl, htot, rfl⟩
    refine SatS.ret ?_
    simp only [ev_var, ev_any, ev_c, ev_bin, ev_binF, ev_chain, ev_un, ev_cons, ev_nil, ev_tup, ev_disp, ev_lst, ev_glo, ev_callB, ev_callF, ev_call, ev_if, ev_sl, ev_oN, ev_oS, ev_rev, ev_isa, ev_tOf, ev_tAnd, ev_tOr, ev_tNot, ev_andV, ev_orV, ev_notV, ev_upper, ev_yes, ev_comp, wipeE, notOwn, List.all_cons, List.all_nil, ev_range1, ev_range2, ev_isq, ev_zip2, ev_zip3, ev_enum, optR_some, bind_ok, Sat_ok, Sat_bind, List.getElem?_cons_zero, List.getElem?_cons_succ, List.set_cons_zero, List.set_cons_succ, List.length_cons, List.length_nil, Bool.true_and, Bool.and_true, Bool.and_self, Bool.or_true, Bool.true_or, Bool.false_or, Bool.or_false, Bool.not_true, Bool.not_false, Bool.false_and, Bool.and_false, if_true, if_false, Bool.false_eq_true, reduceIte, reduceCtorEq, opAdd, opSub, opMul, opDiv, opMod, opNeg, opI, opLt, opLe, opGt, opGe, opEq, opNe, opEq_int, opIs, opIsnot, opIsB, isNonP, opIx, opLen, opTuple, opList, opInt, opAbs, opStr, opSum, opMax, opMin, opMM, opAny, opAll, opAA, asSeq, asLst, top, frSeq, kdP, isa, id_eq, Option.map_some, Option.bind_some]
    have e1 : (step.zip ds).take (rangeL 0 (step.length : Int)).length = step.zip ds := List.take_of_length_le (by rw [rangeN_len, List.length_zip]; omega)
    rw [e1] at htot
    rw [htot]
    exact ⟨rfl, trivial⟩
theorem stepL_range {n : Nat} {mk t u : List Int} (hm : mk.length = n) (ht : t.length = n) (hu : u.length = n) : (List.range n).map (fun k => PV.int (mk.getD k 0 - t.getD k 0 + u.getD k 0)) = (stepL mk t u).map .int := by
  unfold stepL
  rw [List.map_map]
  apply List.ext_getElem?
  intro k
  rw [List.getElem?_map, List.getElem?_map]
  by_cases hk : k < n
  · have e1 := List.getElem?_eq_getElem (show k < mk.length by omega)
    have e2 := List.getElem?_eq_getElem (show k < t.length by omega)
    have e4 := List.getElem?_eq_getElem (show k < u.length by omega)
    have e3 : (mk.zip (t.zip u))[k]? = some (mk[k]'(by omega), t[k]'(by omega), u[k]'(by omega)) := by
      rw [List.getElem?_zip_eq_some]
      exact ⟨e1, List.getElem?_zip_eq_some.mpr ⟨e2, e4⟩⟩
    rw [List.getElem?_range hk, e3]
    simp only [Option.map_some, List.getD_eq_getElem?_getD, e1, e2, e4, Option.getD_some, Function.comp]
  · have e3 : (mk.zip (t.zip u))[k]? = none := List.getElem?_eq_none (by rw [List.length_zip, List.length_zip]; omega)
    rw [List.getElem?_eq_none (by rw [List.length_range]; omega), e3]; rfl
theorem stepL_len {n : Nat} {mk t u : List Int} (hm : mk.length = n) (ht : t.length = n) (hu : u.length = n) : (stepL mk t u).length = n := by
  unfold stepL
  rw [List.length_map, List.length_zip, List.length_zip]; omega
/-- one deed -/
def doneL (ds : List (List Int × List Int)) (mk : List Int) (k : Nat) : Option (List Int) := (ds[k]?).bind fun d => if leB d.1 mk then some (stepL mk d.1 d.2) else none
def oP : Option (List Int) → PV
  | some l => ti l
  | none => .non
theorem doneL_len {n : Nat} {ds : List (List Int × List Int)} (N : NetOk n ds) {mk mk' : List Int} (hm : mk.length = n) {k : Nat} (h : doneL ds mk k = some mk') : mk'.length = n := by
  unfold doneL at h
  cases hd : ds[k]? with
  | none => rw [hd] at h; cases h
  | some d =>
    rw [hd] at h
    have h : (if leB d.1 mk = true then some (stepL mk d.1 d.2) else none) = some mk' := h
    split at h
    · cases h
      have hm := List.mem_of_getElem? hd
      exact stepL_len (by assumption) (N.d1 d hm).len (N.d2 d hm).len
    · cases h
theorem ldone_eq {n : Nat} {ds : List (List Int × List Int)} (N : NetOk n ds) (mk : List Int) (hm : mk.length = n) {k : Nat} (hk : k < ds.length) (g : G) : F_law_done [netP n ds, ti mk, .int k] g = .ok (oP (doneL ds mk k)) g := by
  have hn5 := N.n5
  have hd0 := List.getElem?_eq_getElem hk
  have z1 := N.d1 _ (List.getElem_mem hk)
  have z2 := N.d2 _ (List.getElem_mem hk)
  have ed : doneL ds mk k = if leB ds[k].1 mk then some (stepL mk ds[k].1 ds[k].2) else none := by unfold doneL; rw [hd0]; rfl
  rw [ed]
  apply eq_of_sat
  refine satFn rfl ?_
  show SatS (B_law_done [.val (netP n ds), .val (ti mk), .val (.int k), .un, .un, .un] g) _ _
  refine SatS.seq (SatS.asg ?_)
  simp only [ev_var, ev_any, ev_c, ev_bin, ev_binF, ev_chain, ev_un, ev_cons, ev_nil, ev_tup, ev_disp, ev_lst, ev_glo, ev_callB, ev_callF, ev_call, ev_if, ev_sl, ev_oN, ev_oS, ev_rev, ev_isa, ev_tOf, ev_tAnd, ev_tOr, ev_tNot, ev_andV, ev_orV, ev_notV, ev_upper, ev_yes, ev_comp, wipeE, notOwn, List.all_cons, List.all_nil, ev_range1, ev_range2, ev_isq, ev_zip2, ev_zip3, ev_enum, optR_some, bind_ok, Sat_ok, Sat_bind, List.getElem?_cons_zero, List.getElem?_cons_succ, List.set_cons_zero, List.set_cons_succ, List.length_cons, List.length_nil, Bool.true_and, Bool.and_true, Bool.and_self, Bool.or_true, Bool.true_or, Bool.false_or, Bool.or_false, Bool.not_true, Bool.not_false, Bool.false_and, Bool.and_false, if_true, if_false, Bool.false_eq_true, reduceIte, reduceCtorEq, opAdd, opSub, opMul, opDiv, opMod, opNeg, opI, opLt, opLe, opGt, opGe, opEq, opNe, opEq_int, opIs, opIsnot, opIsB, isNonP, opIx, opLen, opTuple, opList, opInt, opAbs, opStr, opSum, opMax, opMin, opMM, opAny, opAll, opAA, asSeq, asLst, top, frSeq, kdP, isa, id_eq, Option.map_some, Option.bind_some, show atI [PV.int n, PV.tup (ds.map dp)] 1 = some (PV.tup (ds.map dp)) from rfl, deedAt (n := n) hd0]
  refine ⟨_, rfl, ?_⟩
  show SatS (sSeq _ _ [.val (netP n ds), .val (ti mk), .val (.int k), .val (ti ds[k].1), .val (ti ds[k].2), .un] g) _ _
  refine SatS.seq (SatS.ite ?_)
  simp only [ev_var, ev_any, ev_c, ev_bin, ev_binF, ev_chain, ev_un, ev_cons, ev_nil, ev_tup, ev_disp, ev_lst, ev_glo, ev_callB, ev_callF, ev_call, ev_if, ev_sl, ev_oN, ev_oS, ev_rev, ev_isa, ev_tOf, ev_tAnd, ev_tOr, ev_tNot, ev_andV, ev_orV, ev_notV, ev_upper, ev_yes, ev_comp, wipeE, notOwn, List.all_cons, List.all_nil, ev_range1, ev_range2, ev_isq, ev_zip2, ev_zip3, ev_enum, optR_some, bind_ok, Sat_ok, Sat_bind, List.getElem?_cons_zero, List.getElem?_cons_succ, List.set_cons_zero, List.set_cons_succ, List.length_cons, List.length_nil, Bool.true_and, Bool.and_true, Bool.and_self, Bool.or_true, Bool.true_or, Bool.false_or, Bool.or_false, Bool.not_true, Bool.not_false, Bool.false_and, Bool.and_false, if_true, if_false, Bool.false_eq_true, reduceIte, reduceCtorEq]
  rw [lwithin_eq _ _ _ (by rw [z1.len, hm]) (by rw [z1.len]; omega)]
  simp only [ev_var, ev_any, ev_c, ev_bin, ev_binF, ev_chain, ev_un, ev_cons, ev_nil, ev_tup, ev_disp, ev_lst, ev_glo, ev_callB, ev_callF, ev_call, ev_if, ev_sl, ev_oN, ev_oS, ev_rev, ev_isa, ev_tOf, ev_tAnd, ev_tOr, ev_tNot, ev_andV, ev_orV, ev_notV, ev_upper, ev_yes, ev_comp, wipeE, notOwn, List.all_cons, List.all_nil, ev_range1, ev_range2, ev_isq, ev_zip2, ev_zip3, ev_enum, optR_some, bind_ok, Sat_ok, Sat_bind, List.getElem?_cons_zero, List.getElem?_cons_succ, List.set_cons_zero, List.set_cons_succ, List.length_cons, List.length_nil, Bool.true_and, Bool.and_true, Bool.and_self, Bool.or_true, Bool.true_or, Bool.false_or, Bool.or_false, Bool.not_true, Bool.not_false, Bool.false_and, Bool.and_false, if_true, if_false, Bool.false_eq_true, reduceIte, reduceCtorEq]
  cases hc : leB ds[k].1 mk with
  | false =>
    refine SatS.ret ?_
    simp only [ev_var, ev_any, ev_c, ev_bin, ev_binF, ev_chain, ev_un, ev_cons, ev_nil, ev_tup, ev_disp, ev_lst, ev_glo, ev_callB, ev_callF, ev_call, ev_if, ev_sl, ev_oN, ev_oS, ev_rev, ev_isa, ev_tOf, ev_tAnd, ev_tOr, ev_tNot, ev_andV, ev_orV, ev_notV, ev_upper, ev_yes, ev_comp, wipeE, notOwn, List.all_cons, List.all_nil, ev_range1, ev_range2, ev_isq, ev_zip2, ev_zip3, ev_enum, optR_some, bind_ok, Sat_ok, Sat_bind, List.getElem?_cons_zero, List.getElem?_cons_succ, List.set_cons_zero, List.set_cons_succ, List.length_cons, List.length_nil, Bool.true_and, Bool.and_true, Bool.and_self, Bool.or_true, Bool.true_or, Bool.false_or, Bool.or_false, Bool.not_true, Bool.not_false, Bool.false_and, Bool.and_false, if_true, if_false, Bool.false_eq_true, reduceIte, reduceCtorEq]
    exact ⟨by first | trivial | rfl, by first | trivial | rfl⟩
  | true =>
    refine SatS.nil (SatS.ret ?_)
    simp only [ev_var, ev_any, ev_c, ev_bin, ev_binF, ev_chain, ev_un, ev_cons, ev_nil, ev_tup, ev_disp, ev_lst, ev_glo, ev_callB, ev_callF, ev_call, ev_if, ev_sl, ev_oN, ev_oS, ev_rev, ev_isa, ev_tOf, ev_tAnd, ev_tOr, ev_tNot, ev_andV, ev_orV, ev_notV, ev_upper, ev_yes, ev_comp, wipeE, notOwn, List.all_cons, List.all_nil, ev_range1, ev_range2, ev_isq, ev_zip2, ev_zip3, ev_enum, optR_some, bind_ok, Sat_ok, Sat_bind, List.getElem?_cons_zero, List.getElem?_cons_succ, List.set_cons_zero, List.set_cons_succ, List.length_cons, List.length_nil, Bool.true_and, Bool.and_true, Bool.and_self, Bool.or_true, Bool.true_or, Bool.false_or, Bool.or_false, Bool.not_true, Bool.not_false, Bool.false_and, Bool.and_false, if_true, if_false, Bool.false_eq_true, reduceIte, reduceCtorEq, opAdd, opSub, opMul, opDiv, opMod, opNeg, opI, opLt, opLe, opGt, opGe, opEq, opNe, opEq_int, opIs, opIsnot, opIsB, isNonP, opIx, opLen, opTuple, opList, opInt, opAbs, opStr, opSum, opMax, opMin, opMM, opAny, opAll, opAA, asSeq, asLst, top, frSeq, kdP, isa, id_eq, Option.map_some, Option.bind_some, show atI [PV.int n, PV.tup (ds.map dp)] 0 = some (PV.int n) from rfl, rg1 (show (0 : Int) ≤ n by omega), rg2 (show (n : Int) ≤ 1000000 by omega)]
    rw [map_range, comp_all (fun j : Nat => PV.int (j : Nat)) (fun j => PV.int (mk.getD j 0 - ds[k].1.getD j 0 + ds[k].2.getD j 0)) (fun j hj => ⟨_, rfl, ?_⟩)]
    · rw [stepL_range hm z1.len z2.len]
      simp only [ev_var, ev_any, ev_c, ev_bin, ev_binF, ev_chain, ev_un, ev_cons, ev_nil, ev_tup, ev_disp, ev_lst, ev_glo, ev_callB, ev_callF, ev_call, ev_if, ev_sl, ev_oN, ev_oS, ev_rev, ev_isa, ev_tOf, ev_tAnd, ev_tOr, ev_tNot, ev_andV, ev_orV, ev_notV, ev_upper, ev_yes, ev_comp, wipeE, notOwn, List.all_cons, List.all_nil, ev_range1, ev_range2, ev_isq, ev_zip2, ev_zip3, ev_enum, optR_some, bind_ok, Sat_ok, Sat_bind, List.getElem?_cons_zero, List.getElem?_cons_succ, List.set_cons_zero, List.set_cons_succ, List.length_cons, List.length_nil, Bool.true_and, Bool.and_true, Bool.and_self, Bool.or_true, Bool.true_or, Bool.false_or, Bool.or_false, Bool.not_true, Bool.not_false, Bool.false_and, Bool.and_false, if_true, if_false, Bool.false_eq_true, reduceIte, reduceCtorEq, opAdd, opSub, opMul, opDiv, opMod, opNeg, opI, opLt, opLe, opGt, opGe, opEq, opNe, opEq_int, opIs, opIsnot, opIsB, isNonP, opIx, opLen, opTuple, opList, opInt, opAbs, opStr, opSum, opMax, opMin, opMM, opAny, opAll, opAA, asSeq, asLst, top, frSeq, kdP, isa, id_eq, Option.map_some, Option.bind_some]
      exact ⟨by first | trivial | rfl, by first | trivial | rfl⟩
    · have hj := List.mem_range.mp hj
      have j0 : j < mk.length := by omega
      have j1 : j < ds[k].1.length := by rw [z1.len]; exact hj
      have j2 : j < ds[k].2.length := by rw [z2.len]; exact hj
      simp only [ev_var, ev_any, ev_c, ev_bin, ev_binF, ev_chain, ev_un, ev_cons, ev_nil, ev_tup, ev_disp, ev_lst, ev_glo, ev_callB, ev_callF, ev_call, ev_if, ev_sl, ev_oN, ev_oS, ev_rev, ev_isa, ev_tOf, ev_tAnd, ev_tOr, ev_tNot, ev_andV, ev_orV, ev_notV, ev_upper, ev_yes, ev_comp, wipeE, notOwn, List.all_cons, List.all_nil, ev_range1, ev_range2, ev_isq, ev_zip2, ev_zip3, ev_enum, optR_some, bind_ok, Sat_ok, Sat_bind, List.getElem?_cons_zero, List.getElem?_cons_succ, List.set_cons_zero, List.set_cons_succ, List.length_cons, List.length_nil, Bool.true_and, Bool.and_true, Bool.and_self, Bool.or_true, Bool.true_or, Bool.false_or, Bool.or_false, Bool.not_true, Bool.not_false, Bool.false_and, Bool.and_false, if_true, if_false, Bool.false_eq_true, reduceIte, reduceCtorEq, opAdd, opSub, opMul, opDiv, opMod, opNeg, opI, opLt, opLe, opGt, opGe, opEq, opNe, opEq_int, opIs, opIsnot, opIsB, isNonP, opIx, opLen, opTuple, opList, opInt, opAbs, opStr, opSum, opMax, opMin, opMM, opAny, opAll, opAA, asSeq, asLst, top, frSeq, kdP, isa, id_eq, Option.map_some, Option.bind_some, getI j0, getI j1, getI j2]
      rw [List.getD_eq_getElem?_getD, List.getD_eq_getElem?_getD, List.getD_eq_getElem?_getD, List.getElem?_eq_getElem j0, List.getElem?_eq_getElem j1, List.getElem?_eq_getElem j2]; rfl
/-- a row of deeds -/
def runL (ds : List (List Int × List Int)) (mk : List Int) (row : List Nat) : Option (List Int) := row.foldl (fun o k => o.bind fun mk => doneL ds mk k) (some mk)
theorem lbehind_eq {n : Nat} {ds : List (List Int × List Int)} (N : NetOk n ds) (mk : List Int) (hm : mk.length = n) (row : List Nat) (hr : ∀ k ∈ row, k < ds.length) (g : G) : F_law_behind [netP n ds, ti mk, .tup (row.map fun k => .int (k : Nat))] g = .ok (oP (runL ds mk row)) g := by
  apply eq_of_sat
  refine satFn rfl ?_
  show SatS (B_law_behind [.val (netP n ds), .val (ti mk), .val (.tup (row.map fun k => .int (k : Nat))), .un] g) _ _
  refine SatS.seq (SatS.for_ ?_)
  simp only [ev_var, ev_any, ev_c, ev_bin, ev_binF, ev_chain, ev_un, ev_cons, ev_nil, ev_tup, ev_disp, ev_lst, ev_glo, ev_callB, ev_callF, ev_call, ev_if, ev_sl, ev_oN, ev_oS, ev_rev, ev_isa, ev_tOf, ev_tAnd, ev_tOr, ev_tNot, ev_andV, ev_orV, ev_notV, ev_upper, ev_yes, ev_comp, wipeE, notOwn, List.all_cons, List.all_nil, ev_range1, ev_range2, ev_isq, ev_zip2, ev_zip3, ev_enum, optR_some, bind_ok, Sat_ok, Sat_bind, List.getElem?_cons_zero, List.getElem?_cons_succ, List.set_cons_zero, List.set_cons_succ, List.length_cons, List.length_nil, Bool.true_and, Bool.and_true, Bool.and_self, Bool.or_true, Bool.true_or, Bool.false_or, Bool.or_false, Bool.not_true, Bool.not_false, Bool.false_and, Bool.and_false, if_true, if_false, Bool.false_eq_true, reduceIte, reduceCtorEq, opAdd, opSub, opMul, opDiv, opMod, opNeg, opI, opLt, opLe, opGt, opGe, opEq, opNe, opEq_int, opIs, opIsnot, opIsB, isNonP, opIx, opLen, opTuple, opList, opInt, opAbs, opStr, opSum, opMax, opMin, opMM, opAny, opAll, opAA, asSeq, asLst, top, frSeq, kdP, isa, id_eq, Option.map_some, Option.bind_some]
  refine sat_for (fun k e g' => g' = g ∧ ∃ (o : Option (List Int)) (s3 : SV), (∀ l, o = some l → l.length = n) ∧ o = (row.take k).foldl (fun o k => o.bind fun mk => doneL ds mk k) (some mk) ∧ e = [.val (netP n ds), .val (oP o), .val (.tup (row.map fun k => .int (k : Nat))), s3]) ?_ ?_ ⟨rfl, some mk, _, fun l h => by cases h; exact hm, rfl, rfl⟩
  · rintro k x e g' hx ⟨rfl, o, s3, hl, ho, rfl⟩
    rw [List.getElem?_map] at hx
    cases hq : row[k]? with
    | none => rw [hq] at hx; cases hx
    | some q =>
      rw [hq] at hx; cases hx
      have hq' := hr q (List.mem_of_getElem? hq)
      refine ⟨_, rfl, SatS.ite ?_⟩
      rw [take_succ_some hq, List.foldl_append, ← ho]
      cases o with
      | none =>
        simp only [ev_var, ev_any, ev_c, ev_bin, ev_binF, ev_chain, ev_un, ev_cons, ev_nil, ev_tup, ev_disp, ev_lst, ev_glo, ev_callB, ev_callF, ev_call, ev_if, ev_sl, ev_oN, ev_oS, ev_rev, ev_isa, ev_tOf, ev_tAnd, ev_tOr, ev_tNot, ev_andV, ev_orV, ev_notV, ev_upper, ev_yes, ev_comp, wipeE, notOwn, List.all_cons, List.all_nil, ev_range1, ev_range2, ev_isq, ev_zip2, ev_zip3, ev_enum, optR_some, bind_ok, Sat_ok, Sat_bind, List.getElem?_cons_zero, List.getElem?_cons_succ, List.set_cons_zero, List.set_cons_succ, List.length_cons, List.length_nil, Bool.true_and, Bool.and_true, Bool.and_self, Bool.or_true, Bool.true_or, Bool.false_or, Bool.or_false, Bool.not_true, Bool.not_false, Bool.false_and, Bool.and_false, if_true, if_false, Bool.false_eq_true, reduceIte, reduceCtorEq, opAdd, opSub, opMul, opDiv, opMod, opNeg, opI, opLt, opLe, opGt, opGe, opEq, opNe, opEq_int, opIs, opIsnot, opIsB, isNonP, opIx, opLen, opTuple, opList, opInt, opAbs, opStr, opSum, opMax, opMin, opMM, opAny, opAll, opAA, asSeq, asLst, top, frSeq, kdP, isa, id_eq, Option.map_some, Option.bind_some, oP]
        exact SatS.nil ⟨rfl, none, _, fun l h => (by cases h), rfl, rfl⟩
      | some l =>
        have hll := hl l rfl
        simp only [ev_var, ev_any, ev_c, ev_bin, ev_binF, ev_chain, ev_un, ev_cons, ev_nil, ev_tup, ev_disp, ev_lst, ev_glo, ev_callB, ev_callF, ev_call, ev_if, ev_sl, ev_oN, ev_oS, ev_rev, ev_isa, ev_tOf, ev_tAnd, ev_tOr, ev_tNot, ev_andV, ev_orV, ev_notV, ev_upper, ev_yes, ev_comp, wipeE, notOwn, List.all_cons, List.all_nil, ev_range1, ev_range2, ev_isq, ev_zip2, ev_zip3, ev_enum, optR_some, bind_ok, Sat_ok, Sat_bind, List.getElem?_cons_zero, List.getElem?_cons_succ, List.set_cons_zero, List.set_cons_succ, List.length_cons, List.length_nil, Bool.true_and, Bool.and_true, Bool.and_self, Bool.or_true, Bool.true_or, Bool.false_or, Bool.or_false, Bool.not_true, Bool.not_false, Bool.false_and, Bool.and_false, if_true, if_false, Bool.false_eq_true, reduceIte, reduceCtorEq, opAdd, opSub, opMul, opDiv, opMod, opNeg, opI, opLt, opLe, opGt, opGe, opEq, opNe, opEq_int, opIs, opIsnot, opIsB, isNonP, opIx, opLen, opTuple, opList, opInt, opAbs, opStr, opSum, opMax, opMin, opMM, opAny, opAll, opAA, asSeq, asLst, top, frSeq, kdP, isa, id_eq, Option.map_some, Option.bind_some, oP]
        refine SatS.set ?_
        simp only [ev_var, ev_any, ev_c, ev_bin, ev_binF, ev_chain, ev_un, ev_cons, ev_nil, ev_tup, ev_disp, ev_lst, ev_glo, ev_callB, ev_callF, ev_call, ev_if, ev_sl, ev_oN, ev_oS, ev_rev, ev_isa, ev_tOf, ev_tAnd, ev_tOr, ev_tNot, ev_andV, ev_orV, ev_notV, ev_upper, ev_yes, ev_comp, wipeE, notOwn, List.all_cons, List.all_nil, ev_range1, ev_range2, ev_isq, ev_zip2, ev_zip3, ev_enum, optR_some, bind_ok, Sat_ok, Sat_bind, List.getElem?_cons_zero, List.getElem?_cons_succ, List.set_cons_zero, List.set_cons_succ, List.length_cons, List.length_nil, Bool.true_and, Bool.and_true, Bool.and_self, Bool.or_true, Bool.true_or, Bool.false_or, Bool.or_false, Bool.not_true, Bool.not_false, Bool.false_and, Bool.and_false, if_true, if_false, Bool.false_eq_true, reduceIte, reduceCtorEq]
        rw [ldone_eq N l hll hq']
        simp only [ev_var, ev_any, ev_c, ev_bin, ev_binF, ev_chain, ev_un, ev_cons, ev_nil, ev_tup, ev_disp, ev_lst, ev_glo, ev_callB, ev_callF, ev_call, ev_if, ev_sl, ev_oN, ev_oS, ev_rev, ev_isa, ev_tOf, ev_tAnd, ev_tOr, ev_tNot, ev_andV, ev_orV, ev_notV, ev_upper, ev_yes, ev_comp, wipeE, notOwn, List.all_cons, List.all_nil, ev_range1, ev_range2, ev_isq, ev_zip2, ev_zip3, ev_enum, optR_some, bind_ok, Sat_ok, Sat_bind, List.getElem?_cons_zero, List.getElem?_cons_succ, List.set_cons_zero, List.set_cons_succ, List.length_cons, List.length_nil, Bool.true_and, Bool.and_true, Bool.and_self, Bool.or_true, Bool.true_or, Bool.false_or, Bool.or_false, Bool.not_true, Bool.not_false, Bool.false_and, Bool.and_false, if_true, if_false, Bool.false_eq_true, reduceIte, reduceCtorEq]
        exact ⟨trivial, doneL ds l q, _, fun l' h => doneL_len N hll h, rfl, rfl⟩
  · rintro e g' ⟨rfl, o, s3, hl, ho, rfl⟩
    rw [List.length_map, List.take_length] at ho
    refine SatS.ret ?_
    simp only [ev_var, ev_any, ev_c, ev_bin, ev_binF, ev_chain, ev_un, ev_cons, ev_nil, ev_tup, ev_disp, ev_lst, ev_glo, ev_callB, ev_callF, ev_call, ev_if, ev_sl, ev_oN, ev_oS, ev_rev, ev_isa, ev_tOf, ev_tAnd, ev_tOr, ev_tNot, ev_andV, ev_orV, ev_notV, ev_upper, ev_yes, ev_comp, wipeE, notOwn, List.all_cons, List.all_nil, ev_range1, ev_range2, ev_isq, ev_zip2, ev_zip3, ev_enum, optR_some, bind_ok, Sat_ok, Sat_bind, List.getElem?_cons_zero, List.getElem?_cons_succ, List.set_cons_zero, List.set_cons_succ, List.length_cons, List.length_nil, Bool.true_and, Bool.and_true, Bool.and_self, Bool.or_true, Bool.true_or, Bool.false_or, Bool.or_false, Bool.not_true, Bool.not_false, Bool.false_and, Bool.and_false, if_true, if_false, Bool.false_eq_true, reduceIte, reduceCtorEq]
    exact ⟨by rw [ho]; rfl, trivial⟩

def kindN : PV → Int
  | .bl _ => 1
  | .int _ => 2
  | .str _ => 3
  | .tup _ => 4
  | .lst _ => 5
  | .non => 6
  | _ => 0
def dat : PV → Bool
  | .bl _ => true
  | .int _ => true
  | .str _ => true
  | .tup _ => true
  | .lst _ => true
  | .non => true
  | _ => false
def flat : PV → Bool
  | .bl _ => true
  | .int _ => true
  | .str _ => true
  | .non => true
  | _ => false
theorem kind_eq {v : PV} (h : dat v = true) (g : G) : F_law_kind [v] g = .ok (.int (kindN v)) g := by
  apply eq_of_sat
  refine satFn rfl ?_
  show SatS (B_law_kind [.val v] g) _ _
  cases v with
  | bl b => exact SatS.seq (SatS.ite (by simp only [ev_var, ev_any, ev_c, ev_bin, ev_binF, ev_chain, ev_un, ev_cons, ev_nil, ev_tup, ev_disp, ev_lst, ev_glo, ev_callB, ev_callF, ev_call, ev_if, ev_sl, ev_oN, ev_oS, ev_rev, ev_isa, ev_tOf, ev_tAnd, ev_tOr, ev_tNot, ev_andV, ev_orV, ev_notV, ev_upper, ev_yes, ev_comp, wipeE, notOwn, List.all_cons, List.all_nil, ev_range1, ev_range2, ev_isq, ev_zip2, ev_zip3, ev_enum, optR_some, bind_ok, Sat_ok, Sat_bind, List.getElem?_cons_zero, List.getElem?_cons_succ, List.set_cons_zero, List.set_cons_succ, List.length_cons, List.length_nil, Bool.true_and, Bool.and_true, Bool.and_self, Bool.or_true, Bool.true_or, Bool.false_or, Bool.or_false, Bool.not_true, Bool.not_false, Bool.false_and, Bool.and_false, if_true, if_false, Bool.false_eq_true, reduceIte, reduceCtorEq, opAdd, opSub, opMul, opDiv, opMod, opNeg, opI, opLt, opLe, opGt, opGe, opEq, opNe, opEq_int, opIs, opIsnot, opIsB, isNonP, opIx, opLen, opTuple, opList, opInt, opAbs, opStr, opSum, opMax, opMin, opMM, opAny, opAll, opAA, asSeq, asLst, top, frSeq, kdP, isa, id_eq, Option.map_some, Option.bind_some]; exact SatS.ret (by simp only [ev_var, ev_any, ev_c, ev_bin, ev_binF, ev_chain, ev_un, ev_cons, ev_nil, ev_tup, ev_disp, ev_lst, ev_glo, ev_callB, ev_callF, ev_call, ev_if, ev_sl, ev_oN, ev_oS, ev_rev, ev_isa, ev_tOf, ev_tAnd, ev_tOr, ev_tNot, ev_andV, ev_orV, ev_notV, ev_upper, ev_yes, ev_comp, wipeE, notOwn, List.all_cons, List.all_nil, ev_range1, ev_range2, ev_isq, ev_zip2, ev_zip3, ev_enum, optR_some, bind_ok, Sat_ok, Sat_bind, List.getElem?_cons_zero, List.getElem?_cons_succ, List.set_cons_zero, List.set_cons_succ, List.length_cons, List.length_nil, Bool.true_and, Bool.and_true, Bool.and_self, Bool.or_true, Bool.true_or, Bool.false_or, Bool.or_false, Bool.not_true, Bool.not_false, Bool.false_and, Bool.and_false, if_true, if_false, Bool.false_eq_true, reduceIte, reduceCtorEq]; exact ⟨by first | trivial | rfl, by first | trivial | rfl⟩)))
  | int b =>
    refine SatS.seq (SatS.ite ?_)
    simp only [ev_var, ev_any, ev_c, ev_bin, ev_binF, ev_chain, ev_un, ev_cons, ev_nil, ev_tup, ev_disp, ev_lst, ev_glo, ev_callB, ev_callF, ev_call, ev_if, ev_sl, ev_oN, ev_oS, ev_rev, ev_isa, ev_tOf, ev_tAnd, ev_tOr, ev_tNot, ev_andV, ev_orV, ev_notV, ev_upper, ev_yes, ev_comp, wipeE, notOwn, List.all_cons, List.all_nil, ev_range1, ev_range2, ev_isq, ev_zip2, ev_zip3, ev_enum, optR_some, bind_ok, Sat_ok, Sat_bind, List.getElem?_cons_zero, List.getElem?_cons_succ, List.set_cons_zero, List.set_cons_succ, List.length_cons, List.length_nil, Bool.true_and, Bool.and_true, Bool.and_self, Bool.or_true, Bool.true_or, Bool.false_or, Bool.or_false, Bool.not_true, Bool.not_false, Bool.false_and, Bool.and_false, if_true, if_false, Bool.false_eq_true, reduceIte, reduceCtorEq, opAdd, opSub, opMul, opDiv, opMod, opNeg, opI, opLt, opLe, opGt, opGe, opEq, opNe, opEq_int, opIs, opIsnot, opIsB, isNonP, opIx, opLen, opTuple, opList, opInt, opAbs, opStr, opSum, opMax, opMin, opMM, opAny, opAll, opAA, asSeq, asLst, top, frSeq, kdP, isa, id_eq, Option.map_some, Option.bind_some]
    exact SatS.nil (SatS.seq (SatS.ite (by simp only [ev_var, ev_any, ev_c, ev_bin, ev_binF, ev_chain, ev_un, ev_cons, ev_nil, ev_tup, ev_disp, ev_lst, ev_glo, ev_callB, ev_callF, ev_call, ev_if, ev_sl, ev_oN, ev_oS, ev_rev, ev_isa, ev_tOf, ev_tAnd, ev_tOr, ev_tNot, ev_andV, ev_orV, ev_notV, ev_upper, ev_yes, ev_comp, wipeE, notOwn, List.all_cons, List.all_nil, ev_range1, ev_range2, ev_isq, ev_zip2, ev_zip3, ev_enum, optR_some, bind_ok, Sat_ok, Sat_bind, List.getElem?_cons_zero, List.getElem?_cons_succ, List.set_cons_zero, List.set_cons_succ, List.length_cons, List.length_nil, Bool.true_and, Bool.and_true, Bool.and_self, Bool.or_true, Bool.true_or, Bool.false_or, Bool.or_false, Bool.not_true, Bool.not_false, Bool.false_and, Bool.and_false, if_true, if_false, Bool.false_eq_true, reduceIte, reduceCtorEq, opAdd, opSub, opMul, opDiv, opMod, opNeg, opI, opLt, opLe, opGt, opGe, opEq, opNe, opEq_int, opIs, opIsnot, opIsB, isNonP, opIx, opLen, opTuple, opList, opInt, opAbs, opStr, opSum, opMax, opMin, opMM, opAny, opAll, opAA, asSeq, asLst, top, frSeq, kdP, isa, id_eq, Option.map_some, Option.bind_some]; exact SatS.ret (by simp only [ev_var, ev_any, ev_c, ev_bin, ev_binF, ev_chain, ev_un, ev_cons, ev_nil, ev_tup, ev_disp, ev_lst, ev_glo, ev_callB, ev_callF, ev_call, ev_if, ev_sl, ev_oN, ev_oS, ev_rev, ev_isa, ev_tOf, ev_tAnd, ev_tOr, ev_tNot, ev_andV, ev_orV, ev_notV, ev_upper, ev_yes, ev_comp, wipeE, notOwn, List.all_cons, List.all_nil, ev_range1, ev_range2, ev_isq, ev_zip2, ev_zip3, ev_enum, optR_some, bind_ok, Sat_ok, Sat_bind, List.getElem?_cons_zero, List.getElem?_cons_succ, List.set_cons_zero, List.set_cons_succ, List.length_cons, List.length_nil, Bool.true_and, Bool.and_true, Bool.and_self, Bool.or_true, Bool.true_or, Bool.false_or, Bool.or_false, Bool.not_true, Bool.not_false, Bool.false_and, Bool.and_false, if_true, if_false, Bool.false_eq_true, reduceIte, reduceCtorEq]; exact ⟨by first | trivial | rfl, by first | trivial | rfl⟩))))
  | str b =>
    refine SatS.seq (SatS.ite ?_)
    simp only [ev_var, ev_any, ev_c, ev_bin, ev_binF, ev_chain, ev_un, ev_cons, ev_nil, ev_tup, ev_disp, ev_lst, ev_glo, ev_callB, ev_callF, ev_call, ev_if, ev_sl, ev_oN, ev_oS, ev_rev, ev_isa, ev_tOf, ev_tAnd, ev_tOr, ev_tNot, ev_andV, ev_orV, ev_notV, ev_upper, ev_yes, ev_comp, wipeE, notOwn, List.all_cons, List.all_nil, ev_range1, ev_range2, ev_isq, ev_zip2, ev_zip3, ev_enum, optR_some, bind_ok, Sat_ok, Sat_bind, List.getElem?_cons_zero, List.getElem?_cons_succ, List.set_cons_zero, List.set_cons_succ, List.length_cons, List.length_nil, Bool.true_and, Bool.and_true, Bool.and_self, Bool.or_true, Bool.true_or, Bool.false_or, Bool.or_false, Bool.not_true, Bool.not_false, Bool.false_and, Bool.and_false, if_true, if_false, Bool.false_eq_true, reduceIte, reduceCtorEq, opAdd, opSub, opMul, opDiv, opMod, opNeg, opI, opLt, opLe, opGt, opGe, opEq, opNe, opEq_int, opIs, opIsnot, opIsB, isNonP, opIx, opLen, opTuple, opList, opInt, opAbs, opStr, opSum, opMax, opMin, opMM, opAny, opAll, opAA, asSeq, asLst, top, frSeq, kdP, isa, id_eq, Option.map_some, Option.bind_some]
    refine SatS.nil (SatS.seq (SatS.ite ?_))
    simp only [ev_var, ev_any, ev_c, ev_bin, ev_binF, ev_chain, ev_un, ev_cons, ev_nil, ev_tup, ev_disp, ev_lst, ev_glo, ev_callB, ev_callF, ev_call, ev_if, ev_sl, ev_oN, ev_oS, ev_rev, ev_isa, ev_tOf, ev_tAnd, ev_tOr, ev_tNot, ev_andV, ev_orV, ev_notV, ev_upper, ev_yes, ev_comp, wipeE, notOwn, List.all_cons, List.all_nil, ev_range1, ev_range2, ev_isq, ev_zip2, ev_zip3, ev_enum, optR_some, bind_ok, Sat_ok, Sat_bind, List.getElem?_cons_zero, List.getElem?_cons_succ, List.set_cons_zero, List.set_cons_succ, List.length_cons, List.length_nil, Bool.true_and, Bool.and_true, Bool.and_self, Bool.or_true, Bool.true_or, Bool.false_or, Bool.or_false, Bool.not_true, Bool.not_false, Bool.false_and, Bool.and_false, if_true, if_false, Bool.false_eq_true, reduceIte, reduceCtorEq, opAdd, opSub, opMul, opDiv, opMod, opNeg, opI, opLt, opLe, opGt, opGe, opEq, opNe, opEq_int, opIs, opIsnot, opIsB, isNonP, opIx, opLen, opTuple, opList, opInt, opAbs, opStr, opSum, opMax, opMin, opMM, opAny, opAll, opAA, asSeq, asLst, top, frSeq, kdP, isa, id_eq, Option.map_some, Option.bind_some]
    exact SatS.nil (SatS.seq (SatS.ite (by simp only [ev_var, ev_any, ev_c, ev_bin, ev_binF, ev_chain, ev_un, ev_cons, ev_nil, ev_tup, ev_disp, ev_lst, ev_glo, ev_callB, ev_callF, ev_call, ev_if, ev_sl, ev_oN, ev_oS, ev_rev, ev_isa, ev_tOf, ev_tAnd, ev_tOr, ev_tNot, ev_andV, ev_orV, ev_notV, ev_upper, ev_yes, ev_comp, wipeE, notOwn, List.all_cons, List.all_nil, ev_range1, ev_range2, ev_isq, ev_zip2, ev_zip3, ev_enum, optR_some, bind_ok, Sat_ok, Sat_bind, List.getElem?_cons_zero, List.getElem?_cons_succ, List.set_cons_zero, List.set_cons_succ, List.length_cons, List.length_nil, Bool.true_and, Bool.and_true, Bool.and_self, Bool.or_true, Bool.true_or, Bool.false_or, Bool.or_false, Bool.not_true, Bool.not_false, Bool.false_and, Bool.and_false, if_true, if_false, Bool.false_eq_true, reduceIte, reduceCtorEq, opAdd, opSub, opMul, opDiv, opMod, opNeg, opI, opLt, opLe, opGt, opGe, opEq, opNe, opEq_int, opIs, opIsnot, opIsB, isNonP, opIx, opLen, opTuple, opList, opInt, opAbs, opStr, opSum, opMax, opMin, opMM, opAny, opAll, opAA, asSeq, asLst, top, frSeq, kdP, isa, id_eq, Option.map_some, Option.bind_some]; exact SatS.ret (by simp only [ev_var, ev_any, ev_c, ev_bin, ev_binF, ev_chain, ev_un, ev_cons, ev_nil, ev_tup, ev_disp, ev_lst, ev_glo, ev_callB, ev_callF, ev_call, ev_if, ev_sl, ev_oN, ev_oS, ev_rev, ev_isa, ev_tOf, ev_tAnd, ev_tOr, ev_tNot, ev_andV, ev_orV, ev_notV, ev_upper, ev_yes, ev_comp, wipeE, notOwn, List.all_cons, List.all_nil, ev_range1, ev_range2, ev_isq, ev_zip2, ev_zip3, ev_enum, optR_some, bind_ok, Sat_ok, Sat_bind, List.getElem?_cons_zero, List.getElem?_cons_succ, List.set_cons_zero, List.set_cons_succ, List.length_cons, List.length_nil, Bool.true_and, Bool.and_true, Bool.and_self, Bool.or_true, Bool.true_or, Bool.false_or, Bool.or_false, Bool.not_true, Bool.not_false, Bool.false_and, Bool.and_false, if_true, if_false, Bool.false_eq_true, reduceIte, reduceCtorEq]; exact ⟨by first | trivial | rfl, by first | trivial | rfl⟩))))
  | tup b =>
    refine SatS.seq (SatS.ite ?_)
    simp only [ev_var, ev_any, ev_c, ev_bin, ev_binF, ev_chain, ev_un, ev_cons, ev_nil, ev_tup, ev_disp, ev_lst, ev_glo, ev_callB, ev_callF, ev_call, ev_if, ev_sl, ev_oN, ev_oS, ev_rev, ev_isa, ev_tOf, ev_tAnd, ev_tOr, ev_tNot, ev_andV, ev_orV, ev_notV, ev_upper, ev_yes, ev_comp, wipeE, notOwn, List.all_cons, List.all_nil, ev_range1, ev_range2, ev_isq, ev_zip2, ev_zip3, ev_enum, optR_some, bind_ok, Sat_ok, Sat_bind, List.getElem?_cons_zero, List.getElem?_cons_succ, List.set_cons_zero, List.set_cons_succ, List.length_cons, List.length_nil, Bool.true_and, Bool.and_true, Bool.and_self, Bool.or_true, Bool.true_or, Bool.false_or, Bool.or_false, Bool.not_true, Bool.not_false, Bool.false_and, Bool.and_false, if_true, if_false, Bool.false_eq_true, reduceIte, reduceCtorEq, opAdd, opSub, opMul, opDiv, opMod, opNeg, opI, opLt, opLe, opGt, opGe, opEq, opNe, opEq_int, opIs, opIsnot, opIsB, isNonP, opIx, opLen, opTuple, opList, opInt, opAbs, opStr, opSum, opMax, opMin, opMM, opAny, opAll, opAA, asSeq, asLst, top, frSeq, kdP, isa, id_eq, Option.map_some, Option.bind_some]
    refine SatS.nil (SatS.seq (SatS.ite ?_))
    simp only [ev_var, ev_any, ev_c, ev_bin, ev_binF, ev_chain, ev_un, ev_cons, ev_nil, ev_tup, ev_disp, ev_lst, ev_glo, ev_callB, ev_callF, ev_call, ev_if, ev_sl, ev_oN, ev_oS, ev_rev, ev_isa, ev_tOf, ev_tAnd, ev_tOr, ev_tNot, ev_andV, ev_orV, ev_notV, ev_upper, ev_yes, ev_comp, wipeE, notOwn, List.all_cons, List.all_nil, ev_range1, ev_range2, ev_isq, ev_zip2, ev_zip3, ev_enum, optR_some, bind_ok, Sat_ok, Sat_bind, List.getElem?_cons_zero, List.getElem?_cons_succ, List.set_cons_zero, List.set_cons_succ, List.length_cons, List.length_nil, Bool.true_and, Bool.and_true, Bool.and_self, Bool.or_true, Bool.true_or, Bool.false_or, Bool.or_false, Bool.not_true, Bool.not_false, Bool.false_and, Bool.and_false, if_true, if_false, Bool.false_eq_true, reduceIte, reduceCtorEq, opAdd, opSub, opMul, opDiv, opMod, opNeg, opI, opLt, opLe, opGt, opGe, opEq, opNe, opEq_int, opIs, opIsnot, opIsB, isNonP, opIx, opLen, opTuple, opList, opInt, opAbs, opStr, opSum, opMax, opMin, opMM, opAny, opAll, opAA, asSeq, asLst, top, frSeq, kdP, isa, id_eq, Option.map_some, Option.bind_some]
    refine SatS.nil (SatS.seq (SatS.ite ?_))
    simp only [ev_var, ev_any, ev_c, ev_bin, ev_binF, ev_chain, ev_un, ev_cons, ev_nil, ev_tup, ev_disp, ev_lst, ev_glo, ev_callB, ev_callF, ev_call, ev_if, ev_sl, ev_oN, ev_oS, ev_rev, ev_isa, ev_tOf, ev_tAnd, ev_tOr, ev_tNot, ev_andV, ev_orV, ev_notV, ev_upper, ev_yes, ev_comp, wipeE, notOwn, List.all_cons, List.all_nil, ev_range1, ev_range2, ev_isq, ev_zip2, ev_zip3, ev_enum, optR_some, bind_ok, Sat_ok, Sat_bind, List.getElem?_cons_zero, List.getElem?_cons_succ, List.set_cons_zero, List.set_cons_succ, List.length_cons, List.length_nil, Bool.true_and, Bool.and_true, Bool.and_self, Bool.or_true, Bool.true_or, Bool.false_or, Bool.or_false, Bool.not_true, Bool.not_false, Bool.false_and, Bool.and_false, if_true, if_false, Bool.false_eq_true, reduceIte, reduceCtorEq, opAdd, opSub, opMul, opDiv, opMod, opNeg, opI, opLt, opLe, opGt, opGe, opEq, opNe, opEq_int, opIs, opIsnot, opIsB, isNonP, opIx, opLen, opTuple, opList, opInt, opAbs, opStr, opSum, opMax, opMin, opMM, opAny, opAll, opAA, asSeq, asLst, top, frSeq, kdP, isa, id_eq, Option.map_some, Option.bind_some]
    exact SatS.nil (SatS.seq (SatS.ite (by simp only [ev_var, ev_any, ev_c, ev_bin, ev_binF, ev_chain, ev_un, ev_cons, ev_nil, ev_tup, ev_disp, ev_lst, ev_glo, ev_callB, ev_callF, ev_call, ev_if, ev_sl, ev_oN, ev_oS, ev_rev, ev_isa, ev_tOf, ev_tAnd, ev_tOr, ev_tNot, ev_andV, ev_orV, ev_notV, ev_upper, ev_yes, ev_comp, wipeE, notOwn, List.all_cons, List.all_nil, ev_range1, ev_range2, ev_isq, ev_zip2, ev_zip3, ev_enum, optR_some, bind_ok, Sat_ok, Sat_bind, List.getElem?_cons_zero, List.getElem?_cons_succ, List.set_cons_zero, List.set_cons_succ, List.length_cons, List.length_nil, Bool.true_and, Bool.and_true, Bool.and_self, Bool.or_true, Bool.true_or, Bool.false_or, Bool.or_false, Bool.not_true, Bool.not_false, Bool.false_and, Bool.and_false, if_true, if_false, Bool.false_eq_true, reduceIte, reduceCtorEq, opAdd, opSub, opMul, opDiv, opMod, opNeg, opI, opLt, opLe, opGt, opGe, opEq, opNe, opEq_int, opIs, opIsnot, opIsB, isNonP, opIx, opLen, opTuple, opList, opInt, opAbs, opStr, opSum, opMax, opMin, opMM, opAny, opAll, opAA, asSeq, asLst, top, frSeq, kdP, isa, id_eq, Option.map_some, Option.bind_some]; exact SatS.ret (by simp only [ev_var, ev_any, ev_c, ev_bin, ev_binF, ev_chain, ev_un, ev_cons, ev_nil, ev_tup, ev_disp, ev_lst, ev_glo, ev_callB, ev_callF, ev_call, ev_if, ev_sl, ev_oN, ev_oS, ev_rev, ev_isa, ev_tOf, ev_tAnd, ev_tOr, ev_tNot, ev_andV, ev_orV, ev_notV, ev_upper, ev_yes, ev_comp, wipeE, notOwn, List.all_cons, List.all_nil, ev_range1, ev_range2, ev_isq, ev_zip2, ev_zip3, ev_enum, optR_some, bind_ok, Sat_ok, Sat_bind, List.getElem?_cons_zero, List.getElem?_cons_succ, List.set_cons_zero, List.set_cons_succ, List.length_cons, List.length_nil, Bool.true_and, Bool.and_true, Bool.and_self, Bool.or_true, Bool.true_or, Bool.false_or, Bool.or_false, Bool.not_true, Bool.not_false, Bool.false_and, Bool.and_false, if_true, if_false, Bool.false_eq_true, reduceIte, reduceCtorEq]; exact ⟨by first | trivial | rfl, by first | trivial | rfl⟩))))
  | lst b =>
    refine SatS.seq (SatS.ite ?_)
    simp only [ev_var, ev_any, ev_c, ev_bin, ev_binF, ev_chain, ev_un, ev_cons, ev_nil, ev_tup, ev_disp, ev_lst, ev_glo, ev_callB, ev_callF, ev_call, ev_if, ev_sl, ev_oN, ev_oS, ev_rev, ev_isa, ev_tOf, ev_tAnd, ev_tOr, ev_tNot, ev_andV, ev_orV, ev_notV, ev_upper, ev_yes, ev_comp, wipeE, notOwn, List.all_cons, List.all_nil, ev_range1, ev_range2, ev_isq, ev_zip2, ev_zip3, ev_enum, optR_some, bind_ok, Sat_ok, Sat_bind, List.getElem?_cons_zero, List.getElem?_cons_succ, List.set_cons_zero, List.set_cons_succ, List.length_cons, List.length_nil, Bool.true_and, Bool.and_true, Bool.and_self, Bool.or_true, Bool.true_or, Bool.false_or, Bool.or_false, Bool.not_true, Bool.not_false, Bool.false_and, Bool.and_false, if_true, if_false, Bool.false_eq_true, reduceIte, reduceCtorEq, opAdd, opSub, opMul, opDiv, opMod, opNeg, opI, opLt, opLe, opGt, opGe, opEq, opNe, opEq_int, opIs, opIsnot, opIsB, isNonP, opIx, opLen, opTuple, opList, opInt, opAbs, opStr, opSum, opMax, opMin, opMM, opAny, opAll, opAA, asSeq, asLst, top, frSeq, kdP, isa, id_eq, Option.map_some, Option.bind_some]
    refine SatS.nil (SatS.seq (SatS.ite ?_))
    simp only [ev_var, ev_any, ev_c, ev_bin, ev_binF, ev_chain, ev_un, ev_cons, ev_nil, ev_tup, ev_disp, ev_lst, ev_glo, ev_callB, ev_callF, ev_call, ev_if, ev_sl, ev_oN, ev_oS, ev_rev, ev_isa, ev_tOf, ev_tAnd, ev_tOr, ev_tNot, ev_andV, ev_orV, ev_notV, ev_upper, ev_yes, ev_comp, wipeE, notOwn, List.all_cons, List.all_nil, ev_range1, ev_range2, ev_isq, ev_zip2, ev_zip3, ev_enum, optR_some, bind_ok, Sat_ok, Sat_bind, List.getElem?_cons_zero, List.getElem?_cons_succ, List.set_cons_zero, List.set_cons_succ, List.length_cons, List.length_nil, Bool.true_and, Bool.and_true, Bool.and_self, Bool.or_true, Bool.true_or, Bool.false_or, Bool.or_false, Bool.not_true, Bool.not_false, Bool.false_and, Bool.and_false, if_true, if_false, Bool.false_eq_true, reduceIte, reduceCtorEq, opAdd, opSub, opMul, opDiv, opMod, opNeg, opI, opLt, opLe, opGt, opGe, opEq, opNe, opEq_int, opIs, opIsnot, opIsB, isNonP, opIx, opLen, opTuple, opList, opInt, opAbs, opStr, opSum, opMax, opMin, opMM, opAny, opAll, opAA, asSeq, asLst, top, frSeq, kdP, isa, id_eq, Option.map_some, Option.bind_some]
    refine SatS.nil (SatS.seq (SatS.ite ?_))
    simp only [ev_var, ev_any, ev_c, ev_bin, ev_binF, ev_chain, ev_un, ev_cons, ev_nil, ev_tup, ev_disp, ev_lst, ev_glo, ev_callB, ev_callF, ev_call, ev_if, ev_sl, ev_oN, ev_oS, ev_rev, ev_isa, ev_tOf, ev_tAnd, ev_tOr, ev_tNot, ev_andV, ev_orV, ev_notV, ev_upper, ev_yes, ev_comp, wipeE, notOwn, List.all_cons, List.all_nil, ev_range1, ev_range2, ev_isq, ev_zip2, ev_zip3, ev_enum, optR_some, bind_ok, Sat_ok, Sat_bind, List.getElem?_cons_zero, List.getElem?_cons_succ, List.set_cons_zero, List.set_cons_succ, List.length_cons, List.length_nil, Bool.true_and, Bool.and_true, Bool.and_self, Bool.or_true, Bool.true_or, Bool.false_or, Bool.or_false, Bool.not_true, Bool.not_false, Bool.false_and, Bool.and_false, if_true, if_false, Bool.false_eq_true, reduceIte, reduceCtorEq, opAdd, opSub, opMul, opDiv, opMod, opNeg, opI, opLt, opLe, opGt, opGe, opEq, opNe, opEq_int, opIs, opIsnot, opIsB, isNonP, opIx, opLen, opTuple, opList, opInt, opAbs, opStr, opSum, opMax, opMin, opMM, opAny, opAll, opAA, asSeq, asLst, top, frSeq, kdP, isa, id_eq, Option.map_some, Option.bind_some]
    refine SatS.nil (SatS.seq (SatS.ite ?_))
    simp only [ev_var, ev_any, ev_c, ev_bin, ev_binF, ev_chain, ev_un, ev_cons, ev_nil, ev_tup, ev_disp, ev_lst, ev_glo, ev_callB, ev_callF, ev_call, ev_if, ev_sl, ev_oN, ev_oS, ev_rev, ev_isa, ev_tOf, ev_tAnd, ev_tOr, ev_tNot, ev_andV, ev_orV, ev_notV, ev_upper, ev_yes, ev_comp, wipeE, notOwn, List.all_cons, List.all_nil, ev_range1, ev_range2, ev_isq, ev_zip2, ev_zip3, ev_enum, optR_some, bind_ok, Sat_ok, Sat_bind, List.getElem?_cons_zero, List.getElem?_cons_succ, List.set_cons_zero, List.set_cons_succ, List.length_cons, List.length_nil, Bool.true_and, Bool.and_true, Bool.and_self, Bool.or_true, Bool.true_or, Bool.false_or, Bool.or_false, Bool.not_true, Bool.not_false, Bool.false_and, Bool.and_false, if_true, if_false, Bool.false_eq_true, reduceIte, reduceCtorEq, opAdd, opSub, opMul, opDiv, opMod, opNeg, opI, opLt, opLe, opGt, opGe, opEq, opNe, opEq_int, opIs, opIsnot, opIsB, isNonP, opIx, opLen, opTuple, opList, opInt, opAbs, opStr, opSum, opMax, opMin, opMM, opAny, opAll, opAA, asSeq, asLst, top, frSeq, kdP, isa, id_eq, Option.map_some, Option.bind_some]
    exact SatS.nil (SatS.seq (SatS.ite (by simp only [ev_var, ev_any, ev_c, ev_bin, ev_binF, ev_chain, ev_un, ev_cons, ev_nil, ev_tup, ev_disp, ev_lst, ev_glo, ev_callB, ev_callF, ev_call, ev_if, ev_sl, ev_oN, ev_oS, ev_rev, ev_isa, ev_tOf, ev_tAnd, ev_tOr, ev_tNot, ev_andV, ev_orV, ev_notV, ev_upper, ev_yes, ev_comp, wipeE, notOwn, List.all_cons, List.all_nil, ev_range1, ev_range2, ev_isq, ev_zip2, ev_zip3, ev_enum, optR_some, bind_ok, Sat_ok, Sat_bind, List.getElem?_cons_zero, List.getElem?_cons_succ, List.set_cons_zero, List.set_cons_succ, List.length_cons, List.length_nil, Bool.true_and, Bool.and_true, Bool.and_self, Bool.or_true, Bool.true_or, Bool.false_or, Bool.or_false, Bool.not_true, Bool.not_false, Bool.false_and, Bool.and_false, if_true, if_false, Bool.false_eq_true, reduceIte, reduceCtorEq, opAdd, opSub, opMul, opDiv, opMod, opNeg, opI, opLt, opLe, opGt, opGe, opEq, opNe, opEq_int, opIs, opIsnot, opIsB, isNonP, opIx, opLen, opTuple, opList, opInt, opAbs, opStr, opSum, opMax, opMin, opMM, opAny, opAll, opAA, asSeq, asLst, top, frSeq, kdP, isa, id_eq, Option.map_some, Option.bind_some]; exact SatS.ret (by simp only [ev_var, ev_any, ev_c, ev_bin, ev_binF, ev_chain, ev_un, ev_cons, ev_nil, ev_tup, ev_disp, ev_lst, ev_glo, ev_callB, ev_callF, ev_call, ev_if, ev_sl, ev_oN, ev_oS, ev_rev, ev_isa, ev_tOf, ev_tAnd, ev_tOr, ev_tNot, ev_andV, ev_orV, ev_notV, ev_upper, ev_yes, ev_comp, wipeE, notOwn, List.all_cons, List.all_nil, ev_range1, ev_range2, ev_isq, ev_zip2, ev_zip3, ev_enum, optR_some, bind_ok, Sat_ok, Sat_bind, List.getElem?_cons_zero, List.getElem?_cons_succ, List.set_cons_zero, List.set_cons_succ, List.length_cons, List.length_nil, Bool.true_and, Bool.and_true, Bool.and_self, Bool.or_true, Bool.true_or, Bool.false_or, Bool.or_false, Bool.not_true, Bool.not_false, Bool.false_and, Bool.and_false, if_true, if_false, Bool.false_eq_true, reduceIte, reduceCtorEq]; exact ⟨by first | trivial | rfl, by first | trivial | rfl⟩))))
  | non =>
    refine SatS.seq (SatS.ite ?_)
    simp only [ev_var, ev_any, ev_c, ev_bin, ev_binF, ev_chain, ev_un, ev_cons, ev_nil, ev_tup, ev_disp, ev_lst, ev_glo, ev_callB, ev_callF, ev_call, ev_if, ev_sl, ev_oN, ev_oS, ev_rev, ev_isa, ev_tOf, ev_tAnd, ev_tOr, ev_tNot, ev_andV, ev_orV, ev_notV, ev_upper, ev_yes, ev_comp, wipeE, notOwn, List.all_cons, List.all_nil, ev_range1, ev_range2, ev_isq, ev_zip2, ev_zip3, ev_enum, optR_some, bind_ok, Sat_ok, Sat_bind, List.getElem?_cons_zero, List.getElem?_cons_succ, List.set_cons_zero, List.set_cons_succ, List.length_cons, List.length_nil, Bool.true_and, Bool.and_true, Bool.and_self, Bool.or_true, Bool.true_or, Bool.false_or, Bool.or_false, Bool.not_true, Bool.not_false, Bool.false_and, Bool.and_false, if_true, if_false, Bool.false_eq_true, reduceIte, reduceCtorEq, opAdd, opSub, opMul, opDiv, opMod, opNeg, opI, opLt, opLe, opGt, opGe, opEq, opNe, opEq_int, opIs, opIsnot, opIsB, isNonP, opIx, opLen, opTuple, opList, opInt, opAbs, opStr, opSum, opMax, opMin, opMM, opAny, opAll, opAA, asSeq, asLst, top, frSeq, kdP, isa, id_eq, Option.map_some, Option.bind_some]
    refine SatS.nil (SatS.seq (SatS.ite ?_))
    simp only [ev_var, ev_any, ev_c, ev_bin, ev_binF, ev_chain, ev_un, ev_cons, ev_nil, ev_tup, ev_disp, ev_lst, ev_glo, ev_callB, ev_callF, ev_call, ev_if, ev_sl, ev_oN, ev_oS, ev_rev, ev_isa, ev_tOf, ev_tAnd, ev_tOr, ev_tNot, ev_andV, ev_orV, ev_notV, ev_upper, ev_yes, ev_comp, wipeE, notOwn, List.all_cons, List.all_nil, ev_range1, ev_range2, ev_isq, ev_zip2, ev_zip3, ev_enum, optR_some, bind_ok, Sat_ok, Sat_bind, List.getElem?_cons_zero, List.getElem?_cons_succ, List.set_cons_zero, List.set_cons_succ, List.length_cons, List.length_nil, Bool.true_and, Bool.and_true, Bool.and_self, Bool.or_true, Bool.true_or, Bool.false_or, Bool.or_false, Bool.not_true, Bool.not_false, Bool.false_and, Bool.and_false, if_true, if_false, Bool.false_eq_true, reduceIte, reduceCtorEq, opAdd, opSub, opMul, opDiv, opMod, opNeg, opI, opLt, opLe, opGt, opGe, opEq, opNe, opEq_int, opIs, opIsnot, opIsB, isNonP, opIx, opLen, opTuple, opList, opInt, opAbs, opStr, opSum, opMax, opMin, opMM, opAny, opAll, opAA, asSeq, asLst, top, frSeq, kdP, isa, id_eq, Option.map_some, Option.bind_some]
    refine SatS.nil (SatS.seq (SatS.ite ?_))
    simp only [ev_var, ev_any, ev_c, ev_bin, ev_binF, ev_chain, ev_un, ev_cons, ev_nil, ev_tup, ev_disp, ev_lst, ev_glo, ev_callB, ev_callF, ev_call, ev_if, ev_sl, ev_oN, ev_oS, ev_rev, ev_isa, ev_tOf, ev_tAnd, ev_tOr, ev_tNot, ev_andV, ev_orV, ev_notV, ev_upper, ev_yes, ev_comp, wipeE, notOwn, List.all_cons, List.all_nil, ev_range1, ev_range2, ev_isq, ev_zip2, ev_zip3, ev_enum, optR_some, bind_ok, Sat_ok, Sat_bind, List.getElem?_cons_zero, List.getElem?_cons_succ, List.set_cons_zero, List.set_cons_succ, List.length_cons, List.length_nil, Bool.true_and, Bool.and_true, Bool.and_self, Bool.or_true, Bool.true_or, Bool.false_or, Bool.or_false, Bool.not_true, Bool.not_false, Bool.false_and, Bool.and_false, if_true, if_false, Bool.false_eq_true, reduceIte, reduceCtorEq, opAdd, opSub, opMul, opDiv, opMod, opNeg, opI, opLt, opLe, opGt, opGe, opEq, opNe, opEq_int, opIs, opIsnot, opIsB, isNonP, opIx, opLen, opTuple, opList, opInt, opAbs, opStr, opSum, opMax, opMin, opMM, opAny, opAll, opAA, asSeq, asLst, top, frSeq, kdP, isa, id_eq, Option.map_some, Option.bind_some]
    refine SatS.nil (SatS.seq (SatS.ite ?_))
    simp only [ev_var, ev_any, ev_c, ev_bin, ev_binF, ev_chain, ev_un, ev_cons, ev_nil, ev_tup, ev_disp, ev_lst, ev_glo, ev_callB, ev_callF, ev_call, ev_if, ev_sl, ev_oN, ev_oS, ev_rev, ev_isa, ev_tOf, ev_tAnd, ev_tOr, ev_tNot, ev_andV, ev_orV, ev_notV, ev_upper, ev_yes, ev_comp, wipeE, notOwn, List.all_cons, List.all_nil, ev_range1, ev_range2, ev_isq, ev_zip2, ev_zip3, ev_enum, optR_some, bind_ok, Sat_ok, Sat_bind, List.getElem?_cons_zero, List.getElem?_cons_succ, List.set_cons_zero, List.set_cons_succ, List.length_cons, List.length_nil, Bool.true_and, Bool.and_true, Bool.and_self, Bool.or_true, Bool.true_or, Bool.false_or, Bool.or_false, Bool.not_true, Bool.not_false, Bool.false_and, Bool.and_false, if_true, if_false, Bool.false_eq_true, reduceIte, reduceCtorEq, opAdd, opSub, opMul, opDiv, opMod, opNeg, opI, opLt, opLe, opGt, opGe, opEq, opNe, opEq_int, opIs, opIsnot, opIsB, isNonP, opIx, opLen, opTuple, opList, opInt, opAbs, opStr, opSum, opMax, opMin, opMM, opAny, opAll, opAA, asSeq, asLst, top, frSeq, kdP, isa, id_eq, Option.map_some, Option.bind_some]
    refine SatS.nil (SatS.seq (SatS.ite ?_))
    simp only [ev_var, ev_any, ev_c, ev_bin, ev_binF, ev_chain, ev_un, ev_cons, ev_nil, ev_tup, ev_disp, ev_lst, ev_glo, ev_callB, ev_callF, ev_call, ev_if, ev_sl, ev_oN, ev_oS, ev_rev, ev_isa, ev_tOf, ev_tAnd, ev_tOr, ev_tNot, ev_andV, ev_orV, ev_notV, ev_upper, ev_yes, ev_comp, wipeE, notOwn, List.all_cons, List.all_nil, ev_range1, ev_range2, ev_isq, ev_zip2, ev_zip3, ev_enum, optR_some, bind_ok, Sat_ok, Sat_bind, List.getElem?_cons_zero, List.getElem?_cons_succ, List.set_cons_zero, List.set_cons_succ, List.length_cons, List.length_nil, Bool.true_and, Bool.and_true, Bool.and_self, Bool.or_true, Bool.true_or, Bool.false_or, Bool.or_false, Bool.not_true, Bool.not_false, Bool.false_and, Bool.and_false, if_true, if_false, Bool.false_eq_true, reduceIte, reduceCtorEq, opAdd, opSub, opMul, opDiv, opMod, opNeg, opI, opLt, opLe, opGt, opGe, opEq, opNe, opEq_int, opIs, opIsnot, opIsB, isNonP, opIx, opLen, opTuple, opList, opInt, opAbs, opStr, opSum, opMax, opMin, opMM, opAny, opAll, opAA, asSeq, asLst, top, frSeq, kdP, isa, id_eq, Option.map_some, Option.bind_some]
    exact SatS.nil (SatS.seq (SatS.ite (by simp only [ev_var, ev_any, ev_c, ev_bin, ev_binF, ev_chain, ev_un, ev_cons, ev_nil, ev_tup, ev_disp, ev_lst, ev_glo, ev_callB, ev_callF, ev_call, ev_if, ev_sl, ev_oN, ev_oS, ev_rev, ev_isa, ev_tOf, ev_tAnd, ev_tOr, ev_tNot, ev_andV, ev_orV, ev_notV, ev_upper, ev_yes, ev_comp, wipeE, notOwn, List.all_cons, List.all_nil, ev_range1, ev_range2, ev_isq, ev_zip2, ev_zip3, ev_enum, optR_some, bind_ok, Sat_ok, Sat_bind, List.getElem?_cons_zero, List.getElem?_cons_succ, List.set_cons_zero, List.set_cons_succ, List.length_cons, List.length_nil, Bool.true_and, Bool.and_true, Bool.and_self, Bool.or_true, Bool.true_or, Bool.false_or, Bool.or_false, Bool.not_true, Bool.not_false, Bool.false_and, Bool.and_false, if_true, if_false, Bool.false_eq_true, reduceIte, reduceCtorEq, opAdd, opSub, opMul, opDiv, opMod, opNeg, opI, opLt, opLe, opGt, opGe, opEq, opNe, opEq_int, opIs, opIsnot, opIsB, isNonP, opIx, opLen, opTuple, opList, opInt, opAbs, opStr, opSum, opMax, opMin, opMM, opAny, opAll, opAA, asSeq, asLst, top, frSeq, kdP, isa, id_eq, Option.map_some, Option.bind_some]; exact SatS.ret (by simp only [ev_var, ev_any, ev_c, ev_bin, ev_binF, ev_chain, ev_un, ev_cons, ev_nil, ev_tup, ev_disp, ev_lst, ev_glo, ev_callB, ev_callF, ev_call, ev_if, ev_sl, ev_oN, ev_oS, ev_rev, ev_isa, ev_tOf, ev_tAnd, ev_tOr, ev_tNot, ev_andV, ev_orV, ev_notV, ev_upper, ev_yes, ev_comp, wipeE, notOwn, List.all_cons, List.all_nil, ev_range1, ev_range2, ev_isq, ev_zip2, ev_zip3, ev_enum, optR_some, bind_ok, Sat_ok, Sat_bind, List.getElem?_cons_zero, List.getElem?_cons_succ, List.set_cons_zero, List.set_cons_succ, List.length_cons, List.length_nil, Bool.true_and, Bool.and_true, Bool.and_self, Bool.or_true, Bool.true_or, Bool.false_or, Bool.or_false, Bool.not_true, Bool.not_false, Bool.false_and, Bool.and_false, if_true, if_false, Bool.false_eq_true, reduceIte, reduceCtorEq]; exact ⟨by first | trivial | rfl, by first | trivial | rfl⟩))))
  | _ => cases h
theorem is_eq (b d : Bool) (g : G) : F_law_is [.bl b, .bl d] g = .ok (.bl (decide (b = d))) g := by
  apply eq_of_sat
  refine satFn rfl ?_
  show SatS (B_law_is [.val (.bl b), .val (.bl d)] g) _ _
  cases d with
  | true =>
    refine SatS.seq (SatS.ite ?_)
    simp only [ev_var, ev_any, ev_c, ev_bin, ev_binF, ev_chain, ev_un, ev_cons, ev_nil, ev_tup, ev_disp, ev_lst, ev_glo, ev_callB, ev_callF, ev_call, ev_if, ev_sl, ev_oN, ev_oS, ev_rev, ev_isa, ev_tOf, ev_tAnd, ev_tOr, ev_tNot, ev_andV, ev_orV, ev_notV, ev_upper, ev_yes, ev_comp, wipeE, notOwn, List.all_cons, List.all_nil, ev_range1, ev_range2, ev_isq, ev_zip2, ev_zip3, ev_enum, optR_some, bind_ok, Sat_ok, Sat_bind, List.getElem?_cons_zero, List.getElem?_cons_succ, List.set_cons_zero, List.set_cons_succ, List.length_cons, List.length_nil, Bool.true_and, Bool.and_true, Bool.and_self, Bool.or_true, Bool.true_or, Bool.false_or, Bool.or_false, Bool.not_true, Bool.not_false, Bool.false_and, Bool.and_false, if_true, if_false, Bool.false_eq_true, reduceIte, reduceCtorEq]
    refine SatS.ret ?_
    simp only [ev_var, ev_any, ev_c, ev_bin, ev_binF, ev_chain, ev_un, ev_cons, ev_nil, ev_tup, ev_disp, ev_lst, ev_glo, ev_callB, ev_callF, ev_call, ev_if, ev_sl, ev_oN, ev_oS, ev_rev, ev_isa, ev_tOf, ev_tAnd, ev_tOr, ev_tNot, ev_andV, ev_orV, ev_notV, ev_upper, ev_yes, ev_comp, wipeE, notOwn, List.all_cons, List.all_nil, ev_range1, ev_range2, ev_isq, ev_zip2, ev_zip3, ev_enum, optR_some, bind_ok, Sat_ok, Sat_bind, List.getElem?_cons_zero, List.getElem?_cons_succ, List.set_cons_zero, List.set_cons_succ, List.length_cons, List.length_nil, Bool.true_and, Bool.and_true, Bool.and_self, Bool.or_true, Bool.true_or, Bool.false_or, Bool.or_false, Bool.not_true, Bool.not_false, Bool.false_and, Bool.and_false, if_true, if_false, Bool.false_eq_true, reduceIte, reduceCtorEq, opAdd, opSub, opMul, opDiv, opMod, opNeg, opI, opLt, opLe, opGt, opGe, opEq, opNe, opEq_int, opIs, opIsnot, opIsB, isNonP, opIx, opLen, opTuple, opList, opInt, opAbs, opStr, opSum, opMax, opMin, opMM, opAny, opAll, opAA, asSeq, asLst, top, frSeq, kdP, isa, id_eq, Option.map_some, Option.bind_some]
    exact ⟨by first | trivial | rfl, by first | trivial | rfl⟩
  | false =>
    refine SatS.seq (SatS.ite ?_)
    simp only [ev_var, ev_any, ev_c, ev_bin, ev_binF, ev_chain, ev_un, ev_cons, ev_nil, ev_tup, ev_disp, ev_lst, ev_glo, ev_callB, ev_callF, ev_call, ev_if, ev_sl, ev_oN, ev_oS, ev_rev, ev_isa, ev_tOf, ev_tAnd, ev_tOr, ev_tNot, ev_andV, ev_orV, ev_notV, ev_upper, ev_yes, ev_comp, wipeE, notOwn, List.all_cons, List.all_nil, ev_range1, ev_range2, ev_isq, ev_zip2, ev_zip3, ev_enum, optR_some, bind_ok, Sat_ok, Sat_bind, List.getElem?_cons_zero, List.getElem?_cons_succ, List.set_cons_zero, List.set_cons_succ, List.length_cons, List.length_nil, Bool.true_and, Bool.and_true, Bool.and_self, Bool.or_true, Bool.true_or, Bool.false_or, Bool.or_false, Bool.not_true, Bool.not_false, Bool.false_and, Bool.and_false, if_true, if_false, Bool.false_eq_true, reduceIte, reduceCtorEq]
    refine SatS.nil (SatS.ret ?_)
    simp only [ev_var, ev_any, ev_c, ev_bin, ev_binF, ev_chain, ev_un, ev_cons, ev_nil, ev_tup, ev_disp, ev_lst, ev_glo, ev_callB, ev_callF, ev_call, ev_if, ev_sl, ev_oN, ev_oS, ev_rev, ev_isa, ev_tOf, ev_tAnd, ev_tOr, ev_tNot, ev_andV, ev_orV, ev_notV, ev_upper, ev_yes, ev_comp, wipeE, notOwn, List.all_cons, List.all_nil, ev_range1, ev_range2, ev_isq, ev_zip2, ev_zip3, ev_enum, optR_some, bind_ok, Sat_ok, Sat_bind, List.getElem?_cons_zero, List.getElem?_cons_succ, List.set_cons_zero, List.set_cons_succ, List.length_cons, List.length_nil, Bool.true_and, Bool.and_true, Bool.and_self, Bool.or_true, Bool.true_or, Bool.false_or, Bool.or_false, Bool.not_true, Bool.not_false, Bool.false_and, Bool.and_false, if_true, if_false, Bool.false_eq_true, reduceIte, reduceCtorEq, opAdd, opSub, opMul, opDiv, opMod, opNeg, opI, opLt, opLe, opGt, opGe, opEq, opNe, opEq_int, opIs, opIsnot, opIsB, isNonP, opIx, opLen, opTuple, opList, opInt, opAbs, opStr, opSum, opMax, opMin, opMM, opAny, opAll, opAA, asSeq, asLst, top, frSeq, kdP, isa, id_eq, Option.map_some, Option.bind_some]
    exact ⟨by first | trivial | rfl, by first | trivial | rfl⟩
def eqOk : Nat → PV → Prop
  | 0, v => flat v = true
  | n + 1, v => flat v = true ∨ ∃ xs, (v = .tup xs ∨ v = .lst xs) ∧ xs.length ≤ 1000000 ∧ ∀ x ∈ xs, eqOk n x
theorem flat_pure {v : PV} (h : flat v = true) (n : Nat) : pureD n v = true := by cases v <;> first | rfl | cases h
theorem flat_dat {v : PV} (h : flat v = true) : dat v = true := by cases v <;> first | rfl | cases h
theorem flat_top {v : PV} (h : flat v = true) (e : Q.Env) (g : G) : top e g v = v := by cases v <;> first | rfl | cases h
theorem flat_refl {v : PV} (h : flat v = true) : eqvP v v = true := by
  cases v <;> first | (cases h; done) | simp [eqvP]
theorem kind_pos {v : PV} (h : dat v = true) : (kindN v == 0) = false := by cases v <;> first | rfl | cases h
theorem equal_flat (m : Nat) {v : PV} (h : flat v = true) (g : G) : F_law_equal (m + 1) [v, v] g = .ok (.bl true) g := by
  have hd := flat_dat h
  apply eq_of_sat
  refine satFn rfl ?_
  show SatS (B_law_equal (F_law_equal m) [.val v, .val v, .un] g) _ _
  refine SatS.seq (SatS.ite ?_)
  simp only [ev_var, ev_any, ev_c, ev_bin, ev_binF, ev_chain, ev_un, ev_cons, ev_nil, ev_tup, ev_disp, ev_lst, ev_glo, ev_callB, ev_callF, ev_call, ev_if, ev_sl, ev_oN, ev_oS, ev_rev, ev_isa, ev_tOf, ev_tAnd, ev_tOr, ev_tNot, ev_andV, ev_orV, ev_notV, ev_upper, ev_yes, ev_comp, wipeE, notOwn, List.all_cons, List.all_nil, ev_range1, ev_range2, ev_isq, ev_zip2, ev_zip3, ev_enum, optR_some, bind_ok, Sat_ok, Sat_bind, List.getElem?_cons_zero, List.getElem?_cons_succ, List.set_cons_zero, List.set_cons_succ, List.length_cons, List.length_nil, Bool.true_and, Bool.and_true, Bool.and_self, Bool.or_true, Bool.true_or, Bool.false_or, Bool.or_false, Bool.not_true, Bool.not_false, Bool.false_and, Bool.and_false, if_true, if_false, Bool.false_eq_true, reduceIte, reduceCtorEq]
  rw [kind_eq hd]
  simp only [ev_var, ev_any, ev_c, ev_bin, ev_binF, ev_chain, ev_un, ev_cons, ev_nil, ev_tup, ev_disp, ev_lst, ev_glo, ev_callB, ev_callF, ev_call, ev_if, ev_sl, ev_oN, ev_oS, ev_rev, ev_isa, ev_tOf, ev_tAnd, ev_tOr, ev_tNot, ev_andV, ev_orV, ev_notV, ev_upper, ev_yes, ev_comp, wipeE, notOwn, List.all_cons, List.all_nil, ev_range1, ev_range2, ev_isq, ev_zip2, ev_zip3, ev_enum, optR_some, bind_ok, Sat_ok, Sat_bind, List.getElem?_cons_zero, List.getElem?_cons_succ, List.set_cons_zero, List.set_cons_succ, List.length_cons, List.length_nil, Bool.true_and, Bool.and_true, Bool.and_self, Bool.or_true, Bool.true_or, Bool.false_or, Bool.or_false, Bool.not_true, Bool.not_false, Bool.false_and, Bool.and_false, if_true, if_false, Bool.false_eq_true, reduceIte, reduceCtorEq]
  rw [kind_eq hd]
  simp only [ev_var, ev_any, ev_c, ev_bin, ev_binF, ev_chain, ev_un, ev_cons, ev_nil, ev_tup, ev_disp, ev_lst, ev_glo, ev_callB, ev_callF, ev_call, ev_if, ev_sl, ev_oN, ev_oS, ev_rev, ev_isa, ev_tOf, ev_tAnd, ev_tOr, ev_tNot, ev_andV, ev_orV, ev_notV, ev_upper, ev_yes, ev_comp, wipeE, notOwn, List.all_cons, List.all_nil, ev_range1, ev_range2, ev_isq, ev_zip2, ev_zip3, ev_enum, optR_some, bind_ok, Sat_ok, Sat_bind, List.getElem?_cons_zero, List.getElem?_cons_succ, List.set_cons_zero, List.set_cons_succ, List.length_cons, List.length_nil, Bool.true_and, Bool.and_true, Bool.and_self, Bool.or_true, Bool.true_or, Bool.false_or, Bool.or_false, Bool.not_true, Bool.not_false, Bool.false_and, Bool.and_false, if_true, if_false, Bool.false_eq_true, reduceIte, reduceCtorEq, opAdd, opSub, opMul, opDiv, opMod, opNeg, opI, opLt, opLe, opGt, opGe, opEq, opNe, opEq_int, opIs, opIsnot, opIsB, isNonP, opIx, opLen, opTuple, opList, opInt, opAbs, opStr, opSum, opMax, opMin, opMM, opAny, opAll, opAA, asSeq, asLst, top, frSeq, kdP, isa, id_eq, Option.map_some, Option.bind_some, beq_self_eq_true]
  rw [kind_eq hd]
  simp only [ev_var, ev_any, ev_c, ev_bin, ev_binF, ev_chain, ev_un, ev_cons, ev_nil, ev_tup, ev_disp, ev_lst, ev_glo, ev_callB, ev_callF, ev_call, ev_if, ev_sl, ev_oN, ev_oS, ev_rev, ev_isa, ev_tOf, ev_tAnd, ev_tOr, ev_tNot, ev_andV, ev_orV, ev_notV, ev_upper, ev_yes, ev_comp, wipeE, notOwn, List.all_cons, List.all_nil, ev_range1, ev_range2, ev_isq, ev_zip2, ev_zip3, ev_enum, optR_some, bind_ok, Sat_ok, Sat_bind, List.getElem?_cons_zero, List.getElem?_cons_succ, List.set_cons_zero, List.set_cons_succ, List.length_cons, List.length_nil, Bool.true_and, Bool.and_true, Bool.and_self, Bool.or_true, Bool.true_or, Bool.false_or, Bool.or_false, Bool.not_true, Bool.not_false, Bool.false_and, Bool.and_false, if_true, if_false, Bool.false_eq_true, reduceIte, reduceCtorEq, opAdd, opSub, opMul, opDiv, opMod, opNeg, opI, opLt, opLe, opGt, opGe, opEq, opNe, opEq_int, opIs, opIsnot, opIsB, isNonP, opIx, opLen, opTuple, opList, opInt, opAbs, opStr, opSum, opMax, opMin, opMM, opAny, opAll, opAA, asSeq, asLst, top, frSeq, kdP, isa, id_eq, Option.map_some, Option.bind_some, kind_pos hd]
  refine SatS.nil (SatS.seq (SatS.ite ?_))
  have i1 : ∀ e : Q.Env, (match kdP e g v with
      | some k => Res.ok (PV.bl (isa k .tuple)) g
      | none => .bad) = .ok (.bl false) g := fun e => by cases v <;> first | rfl | cases h
  have i2 : ∀ e : Q.Env, (match kdP e g v with
      | some k => Res.ok (PV.bl (isa k .list)) g
      | none => .bad) = .ok (.bl false) g := fun e => by cases v <;> first | rfl | cases h
  have j1 : eIsa .tuple (eVar 1) [.val v, .val v, .un] g = .ok (.bl false) g := i1 _
  have j2 : eIsa .list (eVar 1) [.val v, .val v, .un] g = .ok (.bl false) g := i2 _
  simp only [ev_tOr, ev_tOf, j1, j2, bind_ok, if_false, Bool.false_eq_true, Sat_ok, reduceIte]
  refine SatS.nil (SatS.ret ?_)
  have hq : opEq [.val v, .val v, .un] g v v = some (.bl true) := by
    unfold opEq opEqB
    rw [flat_top h, if_pos (by rw [flat_pure h]; rfl), flat_refl h]; rfl
  simp only [ev_bin, ev_var, List.getElem?_cons_zero, List.getElem?_cons_succ, bind_ok, hq, optR_some, Sat_ok]
  exact ⟨by first | trivial | rfl, by first | trivial | rfl⟩
theorem equal_seq (m : Nat) {v : PV} {xs : List PV} (hv : v = .tup xs ∨ v = .lst xs) (hl : xs.length ≤ 1000000) (g : G) (hx : ∀ x ∈ xs, F_law_equal m [x, x] g = .ok (.bl true) g) : F_law_equal (m + 1) [v, v] g = .ok (.bl true) g := by
  have hd : dat v = true := by rcases hv with rfl | rfl <;> rfl
  have ln : ∀ e : Q.Env, opLen e g [v] = some (.int xs.length) := fun e => by rcases hv with rfl | rfl <;> rfl
  have ix : ∀ (e : Q.Env) (i : Int), opIx e g v (.int i) = atI xs i := fun e i => by rcases hv with rfl | rfl <;> rfl
  apply eq_of_sat
  refine satFn rfl ?_
  show SatS (B_law_equal (F_law_equal m) [.val v, .val v, .un] g) _ _
  refine SatS.seq (SatS.ite ?_)
  simp only [ev_var, ev_any, ev_c, ev_bin, ev_binF, ev_chain, ev_un, ev_cons, ev_nil, ev_tup, ev_disp, ev_lst, ev_glo, ev_callB, ev_callF, ev_call, ev_if, ev_sl, ev_oN, ev_oS, ev_rev, ev_isa, ev_tOf, ev_tAnd, ev_tOr, ev_tNot, ev_andV, ev_orV, ev_notV, ev_upper, ev_yes, ev_comp, wipeE, notOwn, List.all_cons, List.all_nil, ev_range1, ev_range2, ev_isq, ev_zip2, ev_zip3, ev_enum, optR_some, bind_ok, Sat_ok, Sat_bind, List.getElem?_cons_zero, List.getElem?_cons_succ, List.set_cons_zero, List.set_cons_succ, List.length_cons, List.length_nil, Bool.true_and, Bool.and_true, Bool.and_self, Bool.or_true, Bool.true_or, Bool.false_or, Bool.or_false, Bool.not_true, Bool.not_false, Bool.false_and, Bool.and_false, if_true, if_false, Bool.false_eq_true, reduceIte, reduceCtorEq]
  rw [kind_eq hd]
  simp only [ev_var, ev_any, ev_c, ev_bin, ev_binF, ev_chain, ev_un, ev_cons, ev_nil, ev_tup, ev_disp, ev_lst, ev_glo, ev_callB, ev_callF, ev_call, ev_if, ev_sl, ev_oN, ev_oS, ev_rev, ev_isa, ev_tOf, ev_tAnd, ev_tOr, ev_tNot, ev_andV, ev_orV, ev_notV, ev_upper, ev_yes, ev_comp, wipeE, notOwn, List.all_cons, List.all_nil, ev_range1, ev_range2, ev_isq, ev_zip2, ev_zip3, ev_enum, optR_some, bind_ok, Sat_ok, Sat_bind, List.getElem?_cons_zero, List.getElem?_cons_succ, List.set_cons_zero, List.set_cons_succ, List.length_cons, List.length_nil, Bool.true_and, Bool.and_true, Bool.and_self, Bool.or_true, Bool.true_or, Bool.false_or, Bool.or_false, Bool.not_true, Bool.not_false, Bool.false_and, Bool.and_false, if_true, if_false, Bool.false_eq_true, reduceIte, reduceCtorEq]
  rw [kind_eq hd]
  simp only [ev_var, ev_any, ev_c, ev_bin, ev_binF, ev_chain, ev_un, ev_cons, ev_nil, ev_tup, ev_disp, ev_lst, ev_glo, ev_callB, ev_callF, ev_call, ev_if, ev_sl, ev_oN, ev_oS, ev_rev, ev_isa, ev_tOf, ev_tAnd, ev_tOr, ev_tNot, ev_andV, ev_orV, ev_notV, ev_upper, ev_yes, ev_comp, wipeE, notOwn, List.all_cons, List.all_nil, ev_range1, ev_range2, ev_isq, ev_zip2, ev_zip3, ev_enum, optR_some, bind_ok, Sat_ok, Sat_bind, List.getElem?_cons_zero, List.getElem?_cons_succ, List.set_cons_zero, List.set_cons_succ, List.length_cons, List.length_nil, Bool.true_and, Bool.and_true, Bool.and_self, Bool.or_true, Bool.true_or, Bool.false_or, Bool.or_false, Bool.not_true, Bool.not_false, Bool.false_and, Bool.and_false, if_true, if_false, Bool.false_eq_true, reduceIte, reduceCtorEq, opAdd, opSub, opMul, opDiv, opMod, opNeg, opI, opLt, opLe, opGt, opGe, opEq, opNe, opEq_int, opIs, opIsnot, opIsB, isNonP, opIx, opLen, opTuple, opList, opInt, opAbs, opStr, opSum, opMax, opMin, opMM, opAny, opAll, opAA, asSeq, asLst, top, frSeq, kdP, isa, id_eq, Option.map_some, Option.bind_some, beq_self_eq_true]
  rw [kind_eq hd]
  simp only [ev_var, ev_any, ev_c, ev_bin, ev_binF, ev_chain, ev_un, ev_cons, ev_nil, ev_tup, ev_disp, ev_lst, ev_glo, ev_callB, ev_callF, ev_call, ev_if, ev_sl, ev_oN, ev_oS, ev_rev, ev_isa, ev_tOf, ev_tAnd, ev_tOr, ev_tNot, ev_andV, ev_orV, ev_notV, ev_upper, ev_yes, ev_comp, wipeE, notOwn, List.all_cons, List.all_nil, ev_range1, ev_range2, ev_isq, ev_zip2, ev_zip3, ev_enum, optR_some, bind_ok, Sat_ok, Sat_bind, List.getElem?_cons_zero, List.getElem?_cons_succ, List.set_cons_zero, List.set_cons_succ, List.length_cons, List.length_nil, Bool.true_and, Bool.and_true, Bool.and_self, Bool.or_true, Bool.true_or, Bool.false_or, Bool.or_false, Bool.not_true, Bool.not_false, Bool.false_and, Bool.and_false, if_true, if_false, Bool.false_eq_true, reduceIte, reduceCtorEq, opAdd, opSub, opMul, opDiv, opMod, opNeg, opI, opLt, opLe, opGt, opGe, opEq, opNe, opEq_int, opIs, opIsnot, opIsB, isNonP, opIx, opLen, opTuple, opList, opInt, opAbs, opStr, opSum, opMax, opMin, opMM, opAny, opAll, opAA, asSeq, asLst, top, frSeq, kdP, isa, id_eq, Option.map_some, Option.bind_some, kind_pos hd]
  refine SatS.nil (SatS.seq (SatS.ite ?_))
  have fin : ∀ N : Q.Env → G → Prop, SatS (sSeq (sIf (tOf (eBin opNe (eCallB opLen (aCons (eVar 0) aNil)) (eCallB opLen (aCons (eVar 1) aNil)))) (sRet (eC (.bl false))) sNil)
      (sSeq (sFor (iRange1 (eCallB opLen (aCons (eVar 1) aNil))) (.nm 2) (sIf (tNot' (tOf (eCall (F_law_equal m) (aCons (eBin opIx (eVar 0) (eVar 2)) (aCons (eBin opIx (eVar 1) (eVar 2)) aNil))))) (sRet (eC (.bl false))) sNil)) (sRet (eC (.bl true)))) [.val v, .val v, .un] g)
      N (fun v' g' => v' = .bl true ∧ g' = g) := by
    intro N
    refine SatS.seq (SatS.ite ?_)
    simp only [ev_tOf, ev_bin, ev_callB, ev_cons, ev_nil, ev_var, List.getElem?_cons_zero, List.getElem?_cons_succ, bind_ok, ln, optR_some, opNe, opEq_int, beq_self_eq_true, Sat_ok]
    refine SatS.nil (SatS.seq (SatS.for_ ?_))
    simp only [ev_range1, ev_callB, ev_cons, ev_nil, ev_var, List.getElem?_cons_zero, List.getElem?_cons_succ, bind_ok, ln, optR_some, rg1 (show (0 : Int) ≤ xs.length by omega), rg2 (show (xs.length : Int) ≤ 1000000 by omega), Bool.and_self, if_true, Sat_ok]
    refine sat_for (fun k e g' => g' = g ∧ ∃ s2 : SV, e = [.val v, .val v, s2]) ?_ ?_ ⟨rfl, _, rfl⟩
    · rintro k x e g' hx' ⟨rfl, s2, rfl⟩
      obtain ⟨rfl, hk, hk'⟩ := range_at hx'
      rw [Int.toNat_natCast] at hk'
      have e1 : atI xs (k : Int) = some xs[k] := atI_nat (List.getElem?_eq_getElem hk')
      refine ⟨_, rfl, SatS.ite ?_⟩
      simp only [ev_var, ev_any, ev_c, ev_bin, ev_binF, ev_chain, ev_un, ev_cons, ev_nil, ev_tup, ev_disp, ev_lst, ev_glo, ev_callB, ev_callF, ev_call, ev_if, ev_sl, ev_oN, ev_oS, ev_rev, ev_isa, ev_tOf, ev_tAnd, ev_tOr, ev_tNot, ev_andV, ev_orV, ev_notV, ev_upper, ev_yes, ev_comp, wipeE, notOwn, List.all_cons, List.all_nil, ev_range1, ev_range2, ev_isq, ev_zip2, ev_zip3, ev_enum, optR_some, bind_ok, Sat_ok, Sat_bind, List.getElem?_cons_zero, List.getElem?_cons_succ, List.set_cons_zero, List.set_cons_succ, List.length_cons, List.length_nil, Bool.true_and, Bool.and_true, Bool.and_self, Bool.or_true, Bool.true_or, Bool.false_or, Bool.or_false, Bool.not_true, Bool.not_false, Bool.false_and, Bool.and_false, if_true, if_false, Bool.false_eq_true, reduceIte, reduceCtorEq, ix, e1]
      rw [hx _ (List.getElem_mem hk')]
      simp only [ev_var, ev_any, ev_c, ev_bin, ev_binF, ev_chain, ev_un, ev_cons, ev_nil, ev_tup, ev_disp, ev_lst, ev_glo, ev_callB, ev_callF, ev_call, ev_if, ev_sl, ev_oN, ev_oS, ev_rev, ev_isa, ev_tOf, ev_tAnd, ev_tOr, ev_tNot, ev_andV, ev_orV, ev_notV, ev_upper, ev_yes, ev_comp, wipeE, notOwn, List.all_cons, List.all_nil, ev_range1, ev_range2, ev_isq, ev_zip2, ev_zip3, ev_enum, optR_some, bind_ok, Sat_ok, Sat_bind, List.getElem?_cons_zero, List.getElem?_cons_succ, List.set_cons_zero, List.set_cons_succ, List.length_cons, List.length_nil, Bool.true_and, Bool.and_true, Bool.and_self, Bool.or_true, Bool.true_or, Bool.false_or, Bool.or_false, Bool.not_true, Bool.not_false, Bool.false_and, Bool.and_false, if_true, if_false, Bool.false_eq_true, reduceIte, reduceCtorEq]
      exact SatS.nil ⟨rfl, _, rfl⟩
    · rintro e g' ⟨rfl, s2, rfl⟩
      refine SatS.ret ?_
      simp only [ev_var, ev_any, ev_c, ev_bin, ev_binF, ev_chain, ev_un, ev_cons, ev_nil, ev_tup, ev_disp, ev_lst, ev_glo, ev_callB, ev_callF, ev_call, ev_if, ev_sl, ev_oN, ev_oS, ev_rev, ev_isa, ev_tOf, ev_tAnd, ev_tOr, ev_tNot, ev_andV, ev_orV, ev_notV, ev_upper, ev_yes, ev_comp, wipeE, notOwn, List.all_cons, List.all_nil, ev_range1, ev_range2, ev_isq, ev_zip2, ev_zip3, ev_enum, optR_some, bind_ok, Sat_ok, Sat_bind, List.getElem?_cons_zero, List.getElem?_cons_succ, List.set_cons_zero, List.set_cons_succ, List.length_cons, List.length_nil, Bool.true_and, Bool.and_true, Bool.and_self, Bool.or_true, Bool.true_or, Bool.false_or, Bool.or_false, Bool.not_true, Bool.not_false, Bool.false_and, Bool.and_false, if_true, if_false, Bool.false_eq_true, reduceIte, reduceCtorEq]
      exact ⟨by first | trivial | rfl, by first | trivial | rfl⟩
  rcases hv with rfl | rfl
  · simp only [ev_var, ev_any, ev_c, ev_bin, ev_binF, ev_chain, ev_un, ev_cons, ev_nil, ev_tup, ev_disp, ev_lst, ev_glo, ev_callB, ev_callF, ev_call, ev_if, ev_sl, ev_oN, ev_oS, ev_rev, ev_isa, ev_tOf, ev_tAnd, ev_tOr, ev_tNot, ev_andV, ev_orV, ev_notV, ev_upper, ev_yes, ev_comp, wipeE, notOwn, List.all_cons, List.all_nil, ev_range1, ev_range2, ev_isq, ev_zip2, ev_zip3, ev_enum, optR_some, bind_ok, Sat_ok, Sat_bind, List.getElem?_cons_zero, List.getElem?_cons_succ, List.set_cons_zero, List.set_cons_succ, List.length_cons, List.length_nil, Bool.true_and, Bool.and_true, Bool.and_self, Bool.or_true, Bool.true_or, Bool.false_or, Bool.or_false, Bool.not_true, Bool.not_false, Bool.false_and, Bool.and_false, if_true, if_false, Bool.false_eq_true, reduceIte, reduceCtorEq, opAdd, opSub, opMul, opDiv, opMod, opNeg, opI, opLt, opLe, opGt, opGe, opEq, opNe, opEq_int, opIs, opIsnot, opIsB, isNonP, opIx, opLen, opTuple, opList, opInt, opAbs, opStr, opSum, opMax, opMin, opMM, opAny, opAll, opAA, asSeq, asLst, top, frSeq, kdP, isa, id_eq, Option.map_some, Option.bind_some]
    exact fin _
  · simp only [ev_var, ev_any, ev_c, ev_bin, ev_binF, ev_chain, ev_un, ev_cons, ev_nil, ev_tup, ev_disp, ev_lst, ev_glo, ev_callB, ev_callF, ev_call, ev_if, ev_sl, ev_oN, ev_oS, ev_rev, ev_isa, ev_tOf, ev_tAnd, ev_tOr, ev_tNot, ev_andV, ev_orV, ev_notV, ev_upper, ev_yes, ev_comp, wipeE, notOwn, List.all_cons, List.all_nil, ev_range1, ev_range2, ev_isq, ev_zip2, ev_zip3, ev_enum, optR_some, bind_ok, Sat_ok, Sat_bind, List.getElem?_cons_zero, List.getElem?_cons_succ, List.set_cons_zero, List.set_cons_succ, List.length_cons, List.length_nil, Bool.true_and, Bool.and_true, Bool.and_self, Bool.or_true, Bool.true_or, Bool.false_or, Bool.or_false, Bool.not_true, Bool.not_false, Bool.false_and, Bool.and_false, if_true, if_false, Bool.false_eq_true, reduceIte, reduceCtorEq, opAdd, opSub, opMul, opDiv, opMod, opNeg, opI, opLt, opLe, opGt, opGe, opEq, opNe, opEq_int, opIs, opIsnot, opIsB, isNonP, opIx, opLen, opTuple, opList, opInt, opAbs, opStr, opSum, opMax, opMin, opMM, opAny, opAll, opAA, asSeq, asLst, top, frSeq, kdP, isa, id_eq, Option.map_some, Option.bind_some]
    exact fin _
theorem equal_refl : ∀ (n m : Nat) (v : PV) (g : G), n < m → eqOk n v → F_law_equal m [v, v] g = .ok (.bl true) g := by
  intro n
  induction n with
  | zero =>
    intro m v g hm h
    obtain ⟨m, rfl⟩ : ∃ k, m = k + 1 := ⟨m - 1, by omega⟩
    exact equal_flat m h g
  | succ n ih =>
    intro m v g hm h
    obtain ⟨m, rfl⟩ : ∃ k, m = k + 1 := ⟨m - 1, by omega⟩
    rcases h with h | ⟨xs, hv, hl, hx⟩
    · exact equal_flat m h g
    · exact equal_seq m hv hl g fun x hx' => ih m x g (by omega) (hx x hx')

/-! ## all steps -/
def mkR (row : List Int) (j : Nat) : List Int := row ++ [(j : Int)]
def extR (ok : List Int → Bool) (q : Nat) (row : List Int) : List (List Int) := ((List.range (q + 1)).filter fun j => ok (mkR row j)).map (mkR row)
def stepsK (ok : List Int → Bool) (q : Nat) : Nat → List (List Int)
  | 0 => [[]]
  | k + 1 => (stepsK ok q k).flatMap (extR ok q)
theorem extR_len (ok : List Int → Bool) (q : Nat) (row : List Int) : (extR ok q row).length ≤ q + 1 := by
  unfold extR
  rw [List.length_map]
  exact Nat.le_trans (List.length_filter_le _ _) (by rw [List.length_range]; exact Nat.le_refl _)
theorem flat_len {f : List Int → List (List Int)} {c : Nat} (h : ∀ r, (f r).length ≤ c) : ∀ l : List (List Int), (l.flatMap f).length ≤ c * l.length
  | [] => by simp
  | r :: l => by
    rw [List.flatMap_cons, List.length_append, List.length_cons, Nat.mul_succ]
    have := h r
    have := flat_len h l
    omega
theorem stepsK_len (ok : List Int → Bool) {q : Nat} (hq : q ≤ 2) : ∀ k, (stepsK ok q k).length ≤ 3 ^ k
  | 0 => by simp [stepsK]
  | k + 1 => by
    have h1 := flat_len (extR_len ok q) (stepsK ok q k)
    have h2 := stepsK_len ok hq k
    have h3 : (q + 1) * (stepsK ok q k).length ≤ 3 * (stepsK ok q k).length := Nat.mul_le_mul_right _ (by omega)
    have h4 : 3 ^ (k + 1) = 3 * 3 ^ k := by rw [Nat.pow_succ, Nat.mul_comm]
    unfold stepsK
    omega
theorem stepsK_mem {ok : List Int → Bool} {q : Nat} : ∀ {k : Nat} {row : List Int}, row ∈ stepsK ok q k → row.length = k ∧ ∀ x ∈ row, 0 ≤ x ∧ x ≤ q
  | 0, row, h => by
    rw [List.mem_singleton.mp h]; exact ⟨rfl, by simp⟩
  | k + 1, row, h => by
    obtain ⟨r, hr, hm⟩ := List.mem_flatMap.mp h
    obtain ⟨h1, h2⟩ := stepsK_mem hr
    unfold extR at hm
    obtain ⟨j, hj, rfl⟩ := List.mem_map.mp hm
    have hj := List.mem_range.mp (List.mem_filter.mp hj).1
    unfold mkR
    refine ⟨by rw [List.length_append, h1]; rfl, fun x hx => ?_⟩
    rcases List.mem_append.mp hx with hx | hx
    · exact h2 x hx
    · rw [List.mem_singleton.mp hx]; omega
theorem addL_zero {n : Nat} {a b : List Int} (ha : a.length = n) (hb : b.length = n) : addL a (mulL 0 b) = a := by
  unfold addL mulL
  apply List.ext_getElem?
  intro k
  rw [List.getElem?_map]
  by_cases hk : k < n
  · have e1 := List.getElem?_eq_getElem (show k < a.length by omega)
    have e2 := List.getElem?_eq_getElem (show k < b.length by omega)
    have e3 : (a.zip (b.map fun x => 0 * x))[k]? = some (a[k]'(by omega), 0 * b[k]'(by omega)) := by
      rw [List.getElem?_zip_eq_some]
      exact ⟨e1, by rw [List.getElem?_map, e2]; rfl⟩
    rw [e3, e1]
    simp
  · rw [List.getElem?_eq_none (show (a.zip (b.map fun x => 0 * x)).length ≤ k by rw [List.length_zip]; omega), List.getElem?_eq_none (by omega)]; rfl
theorem pad_fold {n : Nat} (f : List Int × List Int → List Int) : ∀ (s : List Int) (r : Nat) (ds : List (List Int × List Int)) (a : List Int), a.length = n → (∀ d ∈ ds, (f d).length = n) →
    ((s ++ List.replicate r (0 : Int)).zip ds).foldl (fun (acc : List Int) (q : Int × List Int × List Int) => addL acc (mulL q.1 (f q.2))) a = (s.zip ds).foldl (fun acc q => addL acc (mulL q.1 (f q.2))) a
  | [], 0, ds, a, _, _ => rfl
  | [], r + 1, [], a, _, _ => rfl
  | [], r + 1, d :: ds, a, ha, hd => by
    show (List.zip (List.replicate (r + 1) 0) (d :: ds)).foldl _ a = a
    rw [List.replicate_succ, List.zip_cons_cons, List.foldl_cons]
    rw [addL_zero ha (hd d (by simp))]
    exact pad_fold f [] r ds a ha fun d hd' => hd d (List.mem_cons_of_mem _ hd')
  | x :: s, r, [], a, _, _ => by rw [List.zip_nil_right, List.zip_nil_right]
  | x :: s, r, d :: ds, a, ha, hd => by
    rw [List.cons_append, List.zip_cons_cons, List.foldl_cons, List.zip_cons_cons, List.foldl_cons]
    exact pad_fold f s r ds _ (by rw [addL_len (by rw [mulL_len, ha, hd d (List.mem_cons_self ..)])]; exact ha) fun d hd' => hd d (List.mem_cons_of_mem _ hd')
theorem takenL_pad {n : Nat} {f : List Int × List Int → List Int} {ds : List (List Int × List Int)} (hd : ∀ d ∈ ds, (f d).length = n) (s : List Int) (r : Nat) : takenL f n (s ++ List.replicate r 0) ds = takenL f n s ds :=
  pad_fold f s r ds _ List.length_replicate hd
/-! sorting -/
def sortR (rows : List (List Int)) : List (List Int) := rows.mergeSort fun a b => PySem.W.dataLe false toD (ti a) (ti b)
theorem sort_rows (rows : List (List Int)) : sortPV (rows.map ti) = (sortR rows).map ti := by
  unfold sortPV sortR
  exact (List.map_mergeSort (r := fun a b : List Int => PySem.W.dataLe false toD (ti a) (ti b)) (s := PySem.W.dataLe false toD) (f := ti) (l := rows) (fun a _ b _ => rfl)).symm
theorem sortR_mem {rows : List (List Int)} {r : List Int} : r ∈ sortR rows ↔ r ∈ rows := List.mem_mergeSort
theorem toD_ti (r : List Int) : toD (ti r) = .tuple (r.map .int) := by
  show PyData.tuple (toDs (r.map .int)) = _
  rw [toDs_map, List.map_map]; rfl
theorem pure_ints : ∀ (n : Nat) (r : List Int), pureDs n (r.map .int) = true
  | n, [] => by unfold pureDs; rfl
  | n, x :: r => by
    rw [List.map_cons]
    unfold pureDs
    rw [pure_ints n r]
    unfold pureD; rfl
theorem pure_ti (n : Nat) (r : List Int) : pureD (n + 1) (ti r) = true := by
  show pureD (n + 1) (.tup (r.map .int)) = true
  unfold pureD
  exact pure_ints n r
theorem sorted_ok {rows : List (List Int)} (h : ∀ r ∈ rows, r ≠ []) : sortedOk (rows.map ti) = true := by
  unfold sortedOk
  rw [Bool.and_eq_true, Bool.and_eq_true, Bool.or_eq_true]
  refine ⟨⟨?_, ?_⟩, .inl ?_⟩
  · rw [pureDs_all, List.all_eq_true]
    intro x hx
    obtain ⟨r, _, rfl⟩ := List.mem_map.mp hx
    exact pure_ti 59 r
  · rw [List.all_eq_true]
    intro x hx
    rw [List.all_eq_true]
    intro y hy
    obtain ⟨r, _, rfl⟩ := List.mem_map.mp hx
    obtain ⟨r', _, rfl⟩ := List.mem_map.mp hy
    rw [toD_ti, toD_ti]
    exact PySem.W.alike_ints r r'
  · rw [List.all_eq_true]
    intro x hx
    obtain ⟨r, hr, rfl⟩ := List.mem_map.mp hx
    have := h r hr
    cases r with
    | nil => exact absurd rfl this
    | cons a r => rfl

def okS (n : Nat) (ds : List (List Int × List Int)) (mk : List Int) (step : List Int) : Bool := leB (takenL (·.1) n step ds) mk
def pos (r : List Int) : Bool := r.any fun x => decide (0 < x)
theorem any_eq (r : List Int) : (r.map fun x => decide (0 < x)).any id = pos r := by
  unfold pos
  rw [List.any_map]; rfl
theorem sorted_eval {rows : List (List Int)} (h : ∀ r ∈ rows, r ≠ []) (e : Q.Env) (g : G) : opSorted e g [.lst (rows.map ti)] = some ((sortR rows).map ti) := by
  show (some (rows.map ti)).bind (fun xs => if sortedOk xs then some (sortPV xs) else none) = _
  rw [Option.bind_some, sorted_ok h, sort_rows]; rfl
theorem snoc_ti (row : List Int) (j : Nat) : (row.map PV.int) ++ [PV.int (j : Int)] = (mkR row j).map .int := by unfold mkR; rw [List.map_append]; rfl
theorem range_ext (ok : List Int → Bool) (row : List Int) (j : Nat) : ((List.range (j + 1)).filter fun j => ok (mkR row j)).map (mkR row) = ((List.range j).filter fun j => ok (mkR row j)).map (mkR row) ++ (if ok (mkR row j) = true then [mkR row j] else []) := by
  rw [List.range_succ, List.filter_append, List.map_append]
  congr 1
  cases hc : ok (mkR row j) with
  | true => rw [List.filter_cons_of_pos (p := fun j => ok (mkR row j)) hc]; rfl
  | false => rw [List.filter_cons_of_neg (p := fun j => ok (mkR row j)) (by rw [hc]; exact Bool.false_ne_true)]; rfl
theorem snoc_rows (A B : List (List Int)) (r : List Int) : (A ++ (B ++ [r])).map ti = (A ++ B).map ti ++ [ti r] := by
  rw [← List.append_assoc, List.map_append]; rfl
theorem steps_at_eq {n : Nat} {ds : List (List Int × List Int)} (N : NetOk n ds) (mk : List Int) {q : Nat} (hq : q ≤ 2) (g : G) :
    Fsteps_at [netP n ds, ti mk, .int q] g = .ok (.lst ((sortR ((stepsK (okS n ds mk) q ds.length).filter pos)).map ti)) g := by
  have hm5 := N.m5
  have hm1 := N.m1
  have fz : fits 1 = true := fits1000 (by omega)
  apply eq_of_sat
  refine satFn rfl ?_
  show SatS (Bsteps_at [.val (netP n ds), .val (ti mk), .val (.int q), .un, .un, .un, .un, .un, .un, .un] g) _ _
  refine SatS.seq (SatS.set ?_)
  simp only [ev_var, ev_any, ev_c, ev_bin, ev_binF, ev_chain, ev_un, ev_cons, ev_nil, ev_tup, ev_disp, ev_lst, ev_glo, ev_callB, ev_callF, ev_call, ev_if, ev_sl, ev_oN, ev_oS, ev_rev, ev_isa, ev_tOf, ev_tAnd, ev_tOr, ev_tNot, ev_andV, ev_orV, ev_notV, ev_upper, ev_yes, ev_comp, wipeE, notOwn, List.all_cons, List.all_nil, ev_range1, ev_range2, ev_isq, ev_zip2, ev_zip3, ev_enum, optR_some, bind_ok, Sat_ok, Sat_bind, List.getElem?_cons_zero, List.getElem?_cons_succ, List.set_cons_zero, List.set_cons_succ, List.length_cons, List.length_nil, Bool.true_and, Bool.and_true, Bool.and_self, Bool.or_true, Bool.true_or, Bool.false_or, Bool.or_false, Bool.not_true, Bool.not_false, Bool.false_and, Bool.and_false, if_true, if_false, Bool.false_eq_true, reduceIte, reduceCtorEq, fits1000 (show 0 ≤ 1000000 by omega), fits1000 (show 1 ≤ 1000000 by omega)]
  refine SatS.seq (SatS.for_ ?_)
  simp only [ev_var, ev_any, ev_c, ev_bin, ev_binF, ev_chain, ev_un, ev_cons, ev_nil, ev_tup, ev_disp, ev_lst, ev_glo, ev_callB, ev_callF, ev_call, ev_if, ev_sl, ev_oN, ev_oS, ev_rev, ev_isa, ev_tOf, ev_tAnd, ev_tOr, ev_tNot, ev_andV, ev_orV, ev_notV, ev_upper, ev_yes, ev_comp, wipeE, notOwn, List.all_cons, List.all_nil, ev_range1, ev_range2, ev_isq, ev_zip2, ev_zip3, ev_enum, optR_some, bind_ok, Sat_ok, Sat_bind, List.getElem?_cons_zero, List.getElem?_cons_succ, List.set_cons_zero, List.set_cons_succ, List.length_cons, List.length_nil, Bool.true_and, Bool.and_true, Bool.and_self, Bool.or_true, Bool.true_or, Bool.false_or, Bool.or_false, Bool.not_true, Bool.not_false, Bool.false_and, Bool.and_false, if_true, if_false, Bool.false_eq_true, reduceIte, reduceCtorEq, opAdd, opSub, opMul, opDiv, opMod, opNeg, opI, opLt, opLe, opGt, opGe, opEq, opNe, opEq_int, opIs, opIsnot, opIsB, isNonP, opIx, opLen, opTuple, opList, opInt, opAbs, opStr, opSum, opMax, opMin, opMM, opAny, opAll, opAA, asSeq, asLst, top, frSeq, kdP, isa, id_eq, Option.map_some, Option.bind_some, List.length_map, show atI [PV.int n, PV.tup (ds.map dp)] 1 = some (PV.tup (ds.map dp)) from rfl, rg1 (show (0 : Int) ≤ ds.length by omega), rg2 (show (ds.length : Int) ≤ 1000000 by omega)]
  refine sat_for (fun k e g' => g' = g ∧ ∃ s4 s5 s6 s7 s8 : SV, (∀ o, s6 ≠ .own o) ∧ e = [.val (netP n ds), .val (ti mk), .val (.int q), .val (.lst ((stepsK (okS n ds mk) q k).map ti)), s4, s5, s6, s7, s8, .un]) ?_ ?_ ⟨rfl, .un, .un, .un, .un, .un, fun o z => (by cases z), rfl⟩
  · rintro k x e g' hx ⟨rfl, s4, s5, s6, s7, s8, h6, rfl⟩
    obtain ⟨rfl, hk, hk'⟩ := range_at hx
    rw [Int.toNat_natCast] at hk'
    refine ⟨_, rfl, ?_⟩
    have hl := stepsK_len (okS n ds mk) hq k
    have hl4 : 3 ^ k ≤ 81 := by
      have : k ≤ 4 := by omega
      exact Nat.le_trans (Nat.pow_le_pow_right (by omega) this) (by decide)
    refine SatS.seq (SatS.own ?_)
    simp only [ev_var, ev_any, ev_c, ev_bin, ev_binF, ev_chain, ev_un, ev_cons, ev_nil, ev_tup, ev_disp, ev_lst, ev_glo, ev_callB, ev_callF, ev_call, ev_if, ev_sl, ev_oN, ev_oS, ev_rev, ev_isa, ev_tOf, ev_tAnd, ev_tOr, ev_tNot, ev_andV, ev_orV, ev_notV, ev_upper, ev_yes, ev_comp, wipeE, notOwn, List.all_cons, List.all_nil, ev_range1, ev_range2, ev_isq, ev_zip2, ev_zip3, ev_enum, optR_some, bind_ok, Sat_ok, Sat_bind, List.getElem?_cons_zero, List.getElem?_cons_succ, List.set_cons_zero, List.set_cons_succ, List.length_cons, List.length_nil, Bool.true_and, Bool.and_true, Bool.and_self, Bool.or_true, Bool.true_or, Bool.false_or, Bool.or_false, Bool.not_true, Bool.not_false, Bool.false_and, Bool.and_false, if_true, if_false, Bool.false_eq_true, reduceIte, reduceCtorEq, fits1000 (show 0 ≤ 1000000 by omega)]
    refine SatS.seq (SatS.for_ ?_)
    simp only [ev_var, ev_any, ev_c, ev_bin, ev_binF, ev_chain, ev_un, ev_cons, ev_nil, ev_tup, ev_disp, ev_lst, ev_glo, ev_callB, ev_callF, ev_call, ev_if, ev_sl, ev_oN, ev_oS, ev_rev, ev_isa, ev_tOf, ev_tAnd, ev_tOr, ev_tNot, ev_andV, ev_orV, ev_notV, ev_upper, ev_yes, ev_comp, wipeE, notOwn, List.all_cons, List.all_nil, ev_range1, ev_range2, ev_isq, ev_zip2, ev_zip3, ev_enum, optR_some, bind_ok, Sat_ok, Sat_bind, List.getElem?_cons_zero, List.getElem?_cons_succ, List.set_cons_zero, List.set_cons_succ, List.length_cons, List.length_nil, Bool.true_and, Bool.and_true, Bool.and_self, Bool.or_true, Bool.true_or, Bool.false_or, Bool.or_false, Bool.not_true, Bool.not_false, Bool.false_and, Bool.and_false, if_true, if_false, Bool.false_eq_true, reduceIte, reduceCtorEq, opAdd, opSub, opMul, opDiv, opMod, opNeg, opI, opLt, opLe, opGt, opGe, opEq, opNe, opEq_int, opIs, opIsnot, opIsB, isNonP, opIx, opLen, opTuple, opList, opInt, opAbs, opStr, opSum, opMax, opMin, opMM, opAny, opAll, opAA, asSeq, asLst, top, frSeq, kdP, isa, id_eq, Option.map_some, Option.bind_some]
    refine sat_for (fun r e g'' => g'' = g' ∧ ∃ s6 s7 s8 : SV, (∀ o, s6 ≠ .own o) ∧ e = [.val (netP n ds), .val (ti mk), .val (.int q), .val (.lst ((stepsK (okS n ds mk) q k).map ti)), .val (.int (k : Int)), .own (.lst ((((stepsK (okS n ds mk) q k).take r).flatMap (extR (okS n ds mk) q)).map ti)), s6, s7, s8, .un]) ?_ ?_ ⟨rfl, _, _, _, h6, rfl⟩
    · rintro r x e g'' hx ⟨rfl, s6, s7, s8, h6', rfl⟩
      rw [List.getElem?_map] at hx
      cases hrow : (stepsK (okS n ds mk) q k)[r]? with
      | none => rw [hrow] at hx; cases hx
      | some row =>
        rw [hrow] at hx; cases hx
        have hr := (List.getElem?_eq_some_iff.mp hrow).1
        obtain ⟨hrl, hrb⟩ := stepsK_mem (List.mem_of_getElem? hrow)
        have hpre := flat_len (extR_len (okS n ds mk) q) ((stepsK (okS n ds mk) q k).take r)
        have hpre2 : ((stepsK (okS n ds mk) q k).take r).length ≤ 81 := by rw [List.length_take]; omega
        have hpre3 : (q + 1) * ((stepsK (okS n ds mk) q k).take r).length ≤ 3 * 81 := Nat.mul_le_mul (by omega) hpre2
        obtain ⟨Pre, hP⟩ : ∃ P, ((stepsK (okS n ds mk) q k).take r).flatMap (extR (okS n ds mk) q) = P := ⟨_, rfl⟩
        rw [hP] at hpre ⊢
        refine ⟨[.val (netP n ds), .val (ti mk), .val (.int q), .val (.lst ((stepsK (okS n ds mk) q k).map ti)), .val (.int (k : Int)), .own (.lst (Pre.map ti)), .val (ti row), s7, s8, .un], by rfl, ?_⟩
        refine SatS.for_ ?_
        simp only [ev_var, ev_any, ev_c, ev_bin, ev_binF, ev_chain, ev_un, ev_cons, ev_nil, ev_tup, ev_disp, ev_lst, ev_glo, ev_callB, ev_callF, ev_call, ev_if, ev_sl, ev_oN, ev_oS, ev_rev, ev_isa, ev_tOf, ev_tAnd, ev_tOr, ev_tNot, ev_andV, ev_orV, ev_notV, ev_upper, ev_yes, ev_comp, wipeE, notOwn, List.all_cons, List.all_nil, ev_range1, ev_range2, ev_isq, ev_zip2, ev_zip3, ev_enum, optR_some, bind_ok, Sat_ok, Sat_bind, List.getElem?_cons_zero, List.getElem?_cons_succ, List.set_cons_zero, List.set_cons_succ, List.length_cons, List.length_nil, Bool.true_and, Bool.and_true, Bool.and_self, Bool.or_true, Bool.true_or, Bool.false_or, Bool.or_false, Bool.not_true, Bool.not_false, Bool.false_and, Bool.and_false, if_true, if_false, Bool.false_eq_true, reduceIte, reduceCtorEq, opAdd, opSub, opMul, opDiv, opMod, opNeg, opI, opLt, opLe, opGt, opGe, opEq, opNe, opEq_int, opIs, opIsnot, opIsB, isNonP, opIx, opLen, opTuple, opList, opInt, opAbs, opStr, opSum, opMax, opMin, opMM, opAny, opAll, opAA, asSeq, asLst, top, frSeq, kdP, isa, id_eq, Option.map_some, Option.bind_some, rg1 (show (0 : Int) ≤ (q : Int) + 1 by omega), rg2 (show (q : Int) + 1 ≤ 1000000 by omega)]
        have hq1 : (q : Int) + 1 = ((q + 1 : Nat) : Int) := by omega
        rw [hq1]
        refine sat_for (fun j e g3 => g3 = g'' ∧ ∃ s7 s8 : SV, e = [.val (netP n ds), .val (ti mk), .val (.int q), .val (.lst ((stepsK (okS n ds mk) q k).map ti)), .val (.int (k : Int)), .own (.lst ((Pre ++ ((List.range j).filter fun j => okS n ds mk (mkR row j)).map (mkR row)).map ti)), .val (ti row), s7, s8, .un]) ?_ ?_ ⟨rfl, _, _, by rw [List.range_zero, List.filter_nil, List.map_nil, List.append_nil]⟩
        · rintro j x e g3 hx ⟨rfl, s7, s8, rfl⟩
          obtain ⟨rfl, hj, hj'⟩ := range_at hx
          rw [Int.toNat_natCast] at hj'
          refine ⟨_, rfl, ?_⟩
          have c1 : decide ((-1000 : Int) ≤ (ds.length : Int) - k - 1) = true := decide_eq_true (by omega)
          have c2 : decide ((ds.length : Int) - k - 1 ≤ 1000) = true := decide_eq_true (by omega)
          have c3 : ((ds.length : Int) - k - 1).toNat = ds.length - k - 1 := by omega
          refine SatS.seq (SatS.set ?_)
          have f1 : fits ((row.map PV.int).length + 1) = true := fits1000 (by rw [List.length_map]; omega)
          have f2 : fits ((mkR row j).length + (List.replicate (ds.length - k - 1) (0 : Int)).length) = true := fits1000 (by rw [List.length_replicate]; unfold mkR; rw [List.length_append, List.length_singleton]; omega)
          simp only [ev_var, ev_any, ev_c, ev_bin, ev_binF, ev_chain, ev_un, ev_cons, ev_nil, ev_tup, ev_disp, ev_lst, ev_glo, ev_callB, ev_callF, ev_call, ev_if, ev_sl, ev_oN, ev_oS, ev_rev, ev_isa, ev_tOf, ev_tAnd, ev_tOr, ev_tNot, ev_andV, ev_orV, ev_notV, ev_upper, ev_yes, ev_comp, wipeE, notOwn, List.all_cons, List.all_nil, ev_range1, ev_range2, ev_isq, ev_zip2, ev_zip3, ev_enum, optR_some, bind_ok, Sat_ok, Sat_bind, List.getElem?_cons_zero, List.getElem?_cons_succ, List.set_cons_zero, List.set_cons_succ, List.length_cons, List.length_nil, Bool.true_and, Bool.and_true, Bool.and_self, Bool.or_true, Bool.true_or, Bool.false_or, Bool.or_false, Bool.not_true, Bool.not_false, Bool.false_and, Bool.and_false, if_true, if_false, Bool.false_eq_true, reduceIte, reduceCtorEq, opAdd, opSub, opMul, opDiv, opMod, opNeg, opI, opLt, opLe, opGt, opGe, opEq, opNe, opEq_int, opIs, opIsnot, opIsB, isNonP, opIx, opLen, opTuple, opList, opInt, opAbs, opStr, opSum, opMax, opMin, opMM, opAny, opAll, opAA, asSeq, asLst, top, frSeq, kdP, isa, id_eq, Option.map_some, Option.bind_some, List.length_map, show atI [PV.int n, PV.tup (ds.map dp)] 1 = some (PV.tup (ds.map dp)) from rfl, fits1000 (show 1 ≤ 1000000 by omega), c1, c2, c3, show Nat.ble 1 1000 = true from rfl, rep_zero, f1, f2, snoc_ti, fits1000 (show row.length + 1 ≤ 1000000 by omega)]
          have pd : okS n ds mk (mkR row j ++ List.replicate (ds.length - k - 1) 0) = okS n ds mk (mkR row j) := by
            unfold okS
            rw [takenL_pad fun d hd => (N.d1 d hd).len]
          have e1 : PV.tup ((mkR row j).map .int ++ (List.replicate (ds.length - k - 1) (0 : Int)).map .int) = ti (mkR row j ++ List.replicate (ds.length - k - 1) 0) := by
            show _ = PV.tup ((mkR row j ++ List.replicate (ds.length - k - 1) 0).map .int)
            rw [List.map_append]
          rw [e1]
          refine SatS.ite ?_
          simp only [ev_var, ev_any, ev_c, ev_bin, ev_binF, ev_chain, ev_un, ev_cons, ev_nil, ev_tup, ev_disp, ev_lst, ev_glo, ev_callB, ev_callF, ev_call, ev_if, ev_sl, ev_oN, ev_oS, ev_rev, ev_isa, ev_tOf, ev_tAnd, ev_tOr, ev_tNot, ev_andV, ev_orV, ev_notV, ev_upper, ev_yes, ev_comp, wipeE, notOwn, List.all_cons, List.all_nil, ev_range1, ev_range2, ev_isq, ev_zip2, ev_zip3, ev_enum, optR_some, bind_ok, Sat_ok, Sat_bind, List.getElem?_cons_zero, List.getElem?_cons_succ, List.set_cons_zero, List.set_cons_succ, List.length_cons, List.length_nil, Bool.true_and, Bool.and_true, Bool.and_self, Bool.or_true, Bool.true_or, Bool.false_or, Bool.or_false, Bool.not_true, Bool.not_false, Bool.false_and, Bool.and_false, if_true, if_false, Bool.false_eq_true, reduceIte, reduceCtorEq]
          rw [can_eq N]
          simp only [ev_var, ev_any, ev_c, ev_bin, ev_binF, ev_chain, ev_un, ev_cons, ev_nil, ev_tup, ev_disp, ev_lst, ev_glo, ev_callB, ev_callF, ev_call, ev_if, ev_sl, ev_oN, ev_oS, ev_rev, ev_isa, ev_tOf, ev_tAnd, ev_tOr, ev_tNot, ev_andV, ev_orV, ev_notV, ev_upper, ev_yes, ev_comp, wipeE, notOwn, List.all_cons, List.all_nil, ev_range1, ev_range2, ev_isq, ev_zip2, ev_zip3, ev_enum, optR_some, bind_ok, Sat_ok, Sat_bind, List.getElem?_cons_zero, List.getElem?_cons_succ, List.set_cons_zero, List.set_cons_succ, List.length_cons, List.length_nil, Bool.true_and, Bool.and_true, Bool.and_self, Bool.or_true, Bool.true_or, Bool.false_or, Bool.or_false, Bool.not_true, Bool.not_false, Bool.false_and, Bool.and_false, if_true, if_false, Bool.false_eq_true, reduceIte, reduceCtorEq]
          have e2 : leB (takenL (·.1) n (mkR row j ++ List.replicate (ds.length - k - 1) 0) ds) mk = okS n ds mk (mkR row j) := pd
          rw [e2, range_ext]
          cases hc : okS n ds mk (mkR row j) with
          | true =>
            rw [if_pos rfl, if_pos rfl, snoc_rows]
            refine SatS.append rfl ?_
            simp only [ev_var, ev_any, ev_c, ev_bin, ev_binF, ev_chain, ev_un, ev_cons, ev_nil, ev_tup, ev_disp, ev_lst, ev_glo, ev_callB, ev_callF, ev_call, ev_if, ev_sl, ev_oN, ev_oS, ev_rev, ev_isa, ev_tOf, ev_tAnd, ev_tOr, ev_tNot, ev_andV, ev_orV, ev_notV, ev_upper, ev_yes, ev_comp, wipeE, notOwn, List.all_cons, List.all_nil, ev_range1, ev_range2, ev_isq, ev_zip2, ev_zip3, ev_enum, optR_some, bind_ok, Sat_ok, Sat_bind, List.getElem?_cons_zero, List.getElem?_cons_succ, List.set_cons_zero, List.set_cons_succ, List.length_cons, List.length_nil, Bool.true_and, Bool.and_true, Bool.and_self, Bool.or_true, Bool.true_or, Bool.false_or, Bool.or_false, Bool.not_true, Bool.not_false, Bool.false_and, Bool.and_false, if_true, if_false, Bool.false_eq_true, reduceIte, reduceCtorEq, opAdd, opSub, opMul, opDiv, opMod, opNeg, opI, opLt, opLe, opGt, opGe, opEq, opNe, opEq_int, opIs, opIsnot, opIsB, isNonP, opIx, opLen, opTuple, opList, opInt, opAbs, opStr, opSum, opMax, opMin, opMM, opAny, opAll, opAA, asSeq, asLst, top, frSeq, kdP, isa, id_eq, Option.map_some, Option.bind_some, fits1000 (show 1 ≤ 1000000 by omega), List.length_map, fits1000 (show row.length + 1 ≤ 1000000 by omega), snoc_ti]
            refine ⟨?_, by first | trivial | rfl, _, _, rfl⟩
            · have b1 := List.length_filter_le (fun j => okS n ds mk (mkR row j)) (List.range j)
              rw [List.length_range] at b1
              refine fits1000 ?_
              rw [List.length_append, List.length_map]
              omega
          | false =>
            rw [if_neg Bool.false_ne_true, if_neg Bool.false_ne_true, List.append_nil]
            exact SatS.nil ⟨rfl, _, _, rfl⟩
        · rintro e g3 ⟨rfl, s7, s8, rfl⟩
          rw [rangeN_len, take_succ_some hrow, List.flatMap_append, hP, List.flatMap_cons, List.flatMap_nil, List.append_nil]
          exact ⟨rfl, _, s7, s8, fun o z => (by cases z), rfl⟩
    · rintro e g'' ⟨rfl, s6, s7, s8, h6', rfl⟩
      rw [List.length_map, List.take_length]
      refine SatS.fzm rfl (SatS.set ?_)
      simp only [ev_var, ev_any, ev_c, ev_bin, ev_binF, ev_chain, ev_un, ev_cons, ev_nil, ev_tup, ev_disp, ev_lst, ev_glo, ev_callB, ev_callF, ev_call, ev_if, ev_sl, ev_oN, ev_oS, ev_rev, ev_isa, ev_tOf, ev_tAnd, ev_tOr, ev_tNot, ev_andV, ev_orV, ev_notV, ev_upper, ev_yes, ev_comp, wipeE, notOwn, List.all_cons, List.all_nil, ev_range1, ev_range2, ev_isq, ev_zip2, ev_zip3, ev_enum, optR_some, bind_ok, Sat_ok, Sat_bind, List.getElem?_cons_zero, List.getElem?_cons_succ, List.set_cons_zero, List.set_cons_succ, List.length_cons, List.length_nil, Bool.true_and, Bool.and_true, Bool.and_self, Bool.or_true, Bool.true_or, Bool.false_or, Bool.or_false, Bool.not_true, Bool.not_false, Bool.false_and, Bool.and_false, if_true, if_false, Bool.false_eq_true, reduceIte, reduceCtorEq]
      exact ⟨by first | trivial | rfl, _, _, _, _, _, h6', rfl⟩
  · rintro e g' ⟨rfl, s4, s5, s6, s7, s8, h6, rfl⟩
    rw [rangeN_len]
    refine SatS.ret ?_
    have no6 : notOwn [.val (netP n ds), .val (ti mk), .val (.int q), .val (.lst ((stepsK (okS n ds mk) q ds.length).map ti)), s4, s5, s6, s7, s8, .un] 6 = true := by
      cases s6 with
      | own o => exact absurd rfl (h6 o)
      | _ => rfl
    simp only [ev_var, ev_any, ev_c, ev_bin, ev_binF, ev_chain, ev_un, ev_cons, ev_nil, ev_tup, ev_disp, ev_lst, ev_glo, ev_callB, ev_callF, ev_call, ev_if, ev_sl, ev_oN, ev_oS, ev_rev, ev_isa, ev_tOf, ev_tAnd, ev_tOr, ev_tNot, ev_andV, ev_orV, ev_notV, ev_upper, ev_yes, ev_comp, wipeE, List.all_cons, List.all_nil, ev_range1, ev_range2, ev_isq, ev_zip2, ev_zip3, ev_enum, optR_some, bind_ok, Sat_ok, Sat_bind, List.getElem?_cons_zero, List.getElem?_cons_succ, List.set_cons_zero, List.set_cons_succ, List.length_cons, List.length_nil, Bool.true_and, Bool.and_true, Bool.and_self, Bool.or_true, Bool.true_or, Bool.false_or, Bool.or_false, Bool.not_true, Bool.not_false, Bool.false_and, Bool.and_false, if_true, if_false, Bool.false_eq_true, reduceIte, reduceCtorEq, no6, opAdd, opSub, opMul, opDiv, opMod, opNeg, opI, opLt, opLe, opGt, opGe, opEq, opNe, opEq_int, opIs, opIsnot, opIsB, isNonP, opIx, opLen, opTuple, opList, opInt, opAbs, opStr, opSum, opMax, opMin, opMM, opAny, opAll, opAA, asSeq, asLst, top, frSeq, kdP, isa, id_eq, Option.map_some, Option.bind_some]
    rw [comp_map ti pos ti (fun r hr => ⟨_, rfl, ?_⟩)]
    · have hne : ∀ r ∈ (stepsK (okS n ds mk) q ds.length).filter pos, r ≠ [] := fun r hr z => by
        have := (stepsK_mem (List.mem_filter.mp hr).1).1
        subst z
        have e : ([] : List Int).length = 0 := rfl
        omega
      simp only [ev_var, ev_any, ev_c, ev_bin, ev_binF, ev_chain, ev_un, ev_cons, ev_nil, ev_tup, ev_disp, ev_lst, ev_glo, ev_callB, ev_callF, ev_call, ev_if, ev_sl, ev_oN, ev_oS, ev_rev, ev_isa, ev_tOf, ev_tAnd, ev_tOr, ev_tNot, ev_andV, ev_orV, ev_notV, ev_upper, ev_yes, ev_comp, wipeE, notOwn, List.all_cons, List.all_nil, ev_range1, ev_range2, ev_isq, ev_zip2, ev_zip3, ev_enum, optR_some, bind_ok, Sat_ok, Sat_bind, List.getElem?_cons_zero, List.getElem?_cons_succ, List.set_cons_zero, List.set_cons_succ, List.length_cons, List.length_nil, Bool.true_and, Bool.and_true, Bool.and_self, Bool.or_true, Bool.true_or, Bool.false_or, Bool.or_false, Bool.not_true, Bool.not_false, Bool.false_and, Bool.and_false, if_true, if_false, Bool.false_eq_true, reduceIte, reduceCtorEq, sorted_eval hne]
      exact ⟨by first | trivial | rfl, by first | trivial | rfl⟩
    · simp only [ev_var, ev_any, ev_c, ev_bin, ev_binF, ev_chain, ev_un, ev_cons, ev_nil, ev_tup, ev_disp, ev_lst, ev_glo, ev_callB, ev_callF, ev_call, ev_if, ev_sl, ev_oN, ev_oS, ev_rev, ev_isa, ev_tOf, ev_tAnd, ev_tOr, ev_tNot, ev_andV, ev_orV, ev_notV, ev_upper, ev_yes, ev_comp, wipeE, notOwn, List.all_cons, List.all_nil, ev_range1, ev_range2, ev_isq, ev_zip2, ev_zip3, ev_enum, optR_some, bind_ok, Sat_ok, Sat_bind, List.getElem?_cons_zero, List.getElem?_cons_succ, List.set_cons_zero, List.set_cons_succ, List.length_cons, List.length_nil, Bool.true_and, Bool.and_true, Bool.and_self, Bool.or_true, Bool.true_or, Bool.false_or, Bool.or_false, Bool.not_true, Bool.not_false, Bool.false_and, Bool.and_false, if_true, if_false, Bool.false_eq_true, reduceIte, reduceCtorEq, opAdd, opSub, opMul, opDiv, opMod, opNeg, opI, opLt, opLe, opGt, opGe, opEq, opNe, opEq_int, opIs, opIsnot, opIsB, isNonP, opIx, opLen, opTuple, opList, opInt, opAbs, opStr, opSum, opMax, opMin, opMM, opAny, opAll, opAA, asSeq, asLst, top, frSeq, kdP, isa, id_eq, Option.map_some, Option.bind_some]
      rw [comp_all (fun x : Int => PV.int x) (fun x => PV.bl (decide (0 < x))) (fun x _ => ⟨_, rfl, rfl⟩)]
      simp only [ev_var, ev_any, ev_c, ev_bin, ev_binF, ev_chain, ev_un, ev_cons, ev_nil, ev_tup, ev_disp, ev_lst, ev_glo, ev_callB, ev_callF, ev_call, ev_if, ev_sl, ev_oN, ev_oS, ev_rev, ev_isa, ev_tOf, ev_tAnd, ev_tOr, ev_tNot, ev_andV, ev_orV, ev_notV, ev_upper, ev_yes, ev_comp, wipeE, notOwn, List.all_cons, List.all_nil, ev_range1, ev_range2, ev_isq, ev_zip2, ev_zip3, ev_enum, optR_some, bind_ok, Sat_ok, Sat_bind, List.getElem?_cons_zero, List.getElem?_cons_succ, List.set_cons_zero, List.set_cons_succ, List.length_cons, List.length_nil, Bool.true_and, Bool.and_true, Bool.and_self, Bool.or_true, Bool.true_or, Bool.false_or, Bool.or_false, Bool.not_true, Bool.not_false, Bool.false_and, Bool.and_false, if_true, if_false, Bool.false_eq_true, reduceIte, reduceCtorEq, opAdd, opSub, opMul, opDiv, opMod, opNeg, opI, opLt, opLe, opGt, opGe, opEq, opNe, opEq_int, opIs, opIsnot, opIsB, isNonP, opIx, opLen, opTuple, opList, opInt, opAbs, opStr, opSum, opMax, opMin, opMM, opAny, opAll, opAA, asSeq, asLst, top, frSeq, kdP, isa, id_eq, Option.map_some, Option.bind_some, bls_map, any_eq]
      exact ⟨by first | trivial | rfl, fun _ => by first | trivial | rfl⟩
theorem sum_pos {q : Nat} : ∀ {r : List Int}, (∀ x ∈ r, 0 ≤ x ∧ x ≤ q) → (decide (0 < r.sum) = pos r ∧ 0 ≤ r.sum)
  | [], _ => ⟨rfl, by simp⟩
  | x :: r, h => by
    obtain ⟨h1, h2⟩ := sum_pos (r := r) fun y hy => h y (List.mem_cons_of_mem _ hy)
    have hx := h x (by simp)
    rw [List.sum_cons]
    refine ⟨?_, by omega⟩
    unfold pos at h1 ⊢
    rw [List.any_cons, ← h1]
    by_cases c : 0 < x
    · rw [decide_eq_true c, decide_eq_true (show 0 < x + r.sum by omega)]; rfl
    · have : x = 0 := by omega
      subst this
      rw [Int.zero_add]; simp
theorem all_steps_eq {n : Nat} {ds : List (List Int × List Int)} (N : NetOk n ds) (mk : List Int) (hmk : mk.length = n) {q : Nat} (hq : q ≤ 2) (g : G) :
    F_law_all_steps [netP n ds, ti mk, .int q] g = .ok (.lst ((sortR ((stepsK (okS n ds mk) q ds.length).filter pos)).map ti)) g := by
  have hm5 := N.m5
  have hm1 := N.m1
  have hn5 := N.n5
  apply eq_of_sat
  refine satFn rfl ?_
  show SatS (B_law_all_steps [.val (netP n ds), .val (ti mk), .val (.int q), .un, .un, .un, .un, .un] g) _ _
  refine SatS.seq (SatS.set ?_)
  simp only [ev_var, ev_any, ev_c, ev_bin, ev_binF, ev_chain, ev_un, ev_cons, ev_nil, ev_tup, ev_disp, ev_lst, ev_glo, ev_callB, ev_callF, ev_call, ev_if, ev_sl, ev_oN, ev_oS, ev_rev, ev_isa, ev_tOf, ev_tAnd, ev_tOr, ev_tNot, ev_andV, ev_orV, ev_notV, ev_upper, ev_yes, ev_comp, wipeE, notOwn, List.all_cons, List.all_nil, ev_range1, ev_range2, ev_isq, ev_zip2, ev_zip3, ev_enum, optR_some, bind_ok, Sat_ok, Sat_bind, List.getElem?_cons_zero, List.getElem?_cons_succ, List.set_cons_zero, List.set_cons_succ, List.length_cons, List.length_nil, Bool.true_and, Bool.and_true, Bool.and_self, Bool.or_true, Bool.true_or, Bool.false_or, Bool.or_false, Bool.not_true, Bool.not_false, Bool.false_and, Bool.and_false, if_true, if_false, Bool.false_eq_true, reduceIte, reduceCtorEq, fits1000 (show 0 ≤ 1000000 by omega), fits1000 (show 1 ≤ 1000000 by omega)]
  refine SatS.seq (SatS.for_ ?_)
  simp only [ev_var, ev_any, ev_c, ev_bin, ev_binF, ev_chain, ev_un, ev_cons, ev_nil, ev_tup, ev_disp, ev_lst, ev_glo, ev_callB, ev_callF, ev_call, ev_if, ev_sl, ev_oN, ev_oS, ev_rev, ev_isa, ev_tOf, ev_tAnd, ev_tOr, ev_tNot, ev_andV, ev_orV, ev_notV, ev_upper, ev_yes, ev_comp, wipeE, notOwn, List.all_cons, List.all_nil, ev_range1, ev_range2, ev_isq, ev_zip2, ev_zip3, ev_enum, optR_some, bind_ok, Sat_ok, Sat_bind, List.getElem?_cons_zero, List.getElem?_cons_succ, List.set_cons_zero, List.set_cons_succ, List.length_cons, List.length_nil, Bool.true_and, Bool.and_true, Bool.and_self, Bool.or_true, Bool.true_or, Bool.false_or, Bool.or_false, Bool.not_true, Bool.not_false, Bool.false_and, Bool.and_false, if_true, if_false, Bool.false_eq_true, reduceIte, reduceCtorEq, opAdd, opSub, opMul, opDiv, opMod, opNeg, opI, opLt, opLe, opGt, opGe, opEq, opNe, opEq_int, opIs, opIsnot, opIsB, isNonP, opIx, opLen, opTuple, opList, opInt, opAbs, opStr, opSum, opMax, opMin, opMM, opAny, opAll, opAA, asSeq, asLst, top, frSeq, kdP, isa, id_eq, Option.map_some, Option.bind_some, List.length_map, show atI [PV.int n, PV.tup (ds.map dp)] 1 = some (PV.tup (ds.map dp)) from rfl, rg1 (show (0 : Int) ≤ ds.length by omega), rg2 (show (ds.length : Int) ≤ 1000000 by omega)]
  refine sat_for (fun k e g' => g' = g ∧ ∃ s4 s5 s6 : SV, (∀ o, s6 ≠ .own o) ∧ e = [.val (netP n ds), .val (ti mk), .val (.int q), .val (.lst ((stepsK (okS n ds mk) q k).map ti)), s4, s5, s6, .un]) ?_ ?_ ⟨rfl, .un, .un, .un, fun o z => (by cases z), rfl⟩
  · rintro k x e g' hx ⟨rfl, s4, s5, s6, h6, rfl⟩
    obtain ⟨rfl, hk, hk'⟩ := range_at hx
    rw [Int.toNat_natCast] at hk'
    refine ⟨_, rfl, ?_⟩
    have hl := stepsK_len (okS n ds mk) hq k
    have hl4 : 3 ^ k ≤ 81 := by
      have : k ≤ 4 := by omega
      exact Nat.le_trans (Nat.pow_le_pow_right (by omega) this) (by decide)
    refine SatS.seq (SatS.set ?_)
    simp only [ev_var, ev_any, ev_c, ev_bin, ev_binF, ev_chain, ev_un, ev_cons, ev_nil, ev_tup, ev_disp, ev_lst, ev_glo, ev_callB, ev_callF, ev_call, ev_if, ev_sl, ev_oN, ev_oS, ev_rev, ev_isa, ev_tOf, ev_tAnd, ev_tOr, ev_tNot, ev_andV, ev_orV, ev_notV, ev_upper, ev_yes, ev_comp, wipeE, notOwn, List.all_cons, List.all_nil, ev_range1, ev_range2, ev_isq, ev_zip2, ev_zip3, ev_enum, optR_some, bind_ok, Sat_ok, Sat_bind, List.getElem?_cons_zero, List.getElem?_cons_succ, List.set_cons_zero, List.set_cons_succ, List.length_cons, List.length_nil, Bool.true_and, Bool.and_true, Bool.and_self, Bool.or_true, Bool.true_or, Bool.false_or, Bool.or_false, Bool.not_true, Bool.not_false, Bool.false_and, Bool.and_false, if_true, if_false, Bool.false_eq_true, reduceIte, reduceCtorEq, fits1000 (show 0 ≤ 1000000 by omega)]
    refine SatS.seq (SatS.for_ ?_)
    simp only [ev_var, ev_any, ev_c, ev_bin, ev_binF, ev_chain, ev_un, ev_cons, ev_nil, ev_tup, ev_disp, ev_lst, ev_glo, ev_callB, ev_callF, ev_call, ev_if, ev_sl, ev_oN, ev_oS, ev_rev, ev_isa, ev_tOf, ev_tAnd, ev_tOr, ev_tNot, ev_andV, ev_orV, ev_notV, ev_upper, ev_yes, ev_comp, wipeE, notOwn, List.all_cons, List.all_nil, ev_range1, ev_range2, ev_isq, ev_zip2, ev_zip3, ev_enum, optR_some, bind_ok, Sat_ok, Sat_bind, List.getElem?_cons_zero, List.getElem?_cons_succ, List.set_cons_zero, List.set_cons_succ, List.length_cons, List.length_nil, Bool.true_and, Bool.and_true, Bool.and_self, Bool.or_true, Bool.true_or, Bool.false_or, Bool.or_false, Bool.not_true, Bool.not_false, Bool.false_and, Bool.and_false, if_true, if_false, Bool.false_eq_true, reduceIte, reduceCtorEq, opAdd, opSub, opMul, opDiv, opMod, opNeg, opI, opLt, opLe, opGt, opGe, opEq, opNe, opEq_int, opIs, opIsnot, opIsB, isNonP, opIx, opLen, opTuple, opList, opInt, opAbs, opStr, opSum, opMax, opMin, opMM, opAny, opAll, opAA, asSeq, asLst, top, frSeq, kdP, isa, id_eq, Option.map_some, Option.bind_some]
    refine sat_for (fun r e g'' => g'' = g' ∧ ∃ s6 : SV, (∀ o, s6 ≠ .own o) ∧ e = [.val (netP n ds), .val (ti mk), .val (.int q), .val (.lst ((stepsK (okS n ds mk) q k).map ti)), .val (.int (k : Int)), .val (.lst ((((stepsK (okS n ds mk) q k).take r).flatMap (extR (okS n ds mk) q)).map ti)), s6, .un]) ?_ ?_ ⟨rfl, _, h6, rfl⟩
    · rintro r x e g'' hx ⟨rfl, s6, h6', rfl⟩
      rw [List.getElem?_map] at hx
      cases hrow : (stepsK (okS n ds mk) q k)[r]? with
      | none => rw [hrow] at hx; cases hx
      | some row =>
        rw [hrow] at hx; cases hx
        have hr := (List.getElem?_eq_some_iff.mp hrow).1
        obtain ⟨hrl, hrb⟩ := stepsK_mem (List.mem_of_getElem? hrow)
        have hpre := flat_len (extR_len (okS n ds mk) q) ((stepsK (okS n ds mk) q k).take r)
        have hpre2 : ((stepsK (okS n ds mk) q k).take r).length ≤ 81 := by rw [List.length_take]; omega
        have hpre3 : (q + 1) * ((stepsK (okS n ds mk) q k).take r).length ≤ 3 * 81 := Nat.mul_le_mul (by omega) hpre2
        have hx2 := extR_len (okS n ds mk) q row
        have e5 : (((stepsK (okS n ds mk) q k).take (r + 1)).flatMap (extR (okS n ds mk) q)).map ti = (((stepsK (okS n ds mk) q k).take r).flatMap (extR (okS n ds mk) q)).map ti ++ (extR (okS n ds mk) q row).map ti := by
          rw [take_succ_some hrow, List.flatMap_append, List.flatMap_cons, List.flatMap_nil, List.append_nil, List.map_append]
        rw [e5]
        refine ⟨_, rfl, SatS.set ?_⟩
        have hq1 : (q : Int) + 1 = ((q + 1 : Nat) : Int) := by omega
        simp only [ev_var, ev_any, ev_c, ev_bin, ev_binF, ev_chain, ev_un, ev_cons, ev_nil, ev_tup, ev_disp, ev_lst, ev_glo, ev_callB, ev_callF, ev_call, ev_if, ev_sl, ev_oN, ev_oS, ev_rev, ev_isa, ev_tOf, ev_tAnd, ev_tOr, ev_tNot, ev_andV, ev_orV, ev_notV, ev_upper, ev_yes, ev_comp, wipeE, notOwn, List.all_cons, List.all_nil, ev_range1, ev_range2, ev_isq, ev_zip2, ev_zip3, ev_enum, optR_some, bind_ok, Sat_ok, Sat_bind, List.getElem?_cons_zero, List.getElem?_cons_succ, List.set_cons_zero, List.set_cons_succ, List.length_cons, List.length_nil, Bool.true_and, Bool.and_true, Bool.and_self, Bool.or_true, Bool.true_or, Bool.false_or, Bool.or_false, Bool.not_true, Bool.not_false, Bool.false_and, Bool.and_false, if_true, if_false, Bool.false_eq_true, reduceIte, reduceCtorEq, opAdd, opSub, opMul, opDiv, opMod, opNeg, opI, opLt, opLe, opGt, opGe, opEq, opNe, opEq_int, opIs, opIsnot, opIsB, isNonP, opIx, opLen, opTuple, opList, opInt, opAbs, opStr, opSum, opMax, opMin, opMM, opAny, opAll, opAA, asSeq, asLst, top, frSeq, kdP, isa, id_eq, Option.map_some, Option.bind_some, rg1 (show (0 : Int) ≤ (q : Int) + 1 by omega), rg2 (show (q : Int) + 1 ≤ 1000000 by omega)]
        rw [hq1, map_range, comp_map (fun j : Nat => PV.int (j : Nat)) (fun j => okS n ds mk (mkR row j)) (fun j => ti (mkR row j)) (fun j hj => ⟨_, rfl, ?_⟩)]
        · have e6 : (((List.range (q + 1)).filter fun j => okS n ds mk (mkR row j)).map fun j => ti (mkR row j)) = (extR (okS n ds mk) q row).map ti := by
            unfold extR
            rw [List.map_map]; rfl
          rw [e6]
          simp only [ev_var, ev_any, ev_c, ev_bin, ev_binF, ev_chain, ev_un, ev_cons, ev_nil, ev_tup, ev_disp, ev_lst, ev_glo, ev_callB, ev_callF, ev_call, ev_if, ev_sl, ev_oN, ev_oS, ev_rev, ev_isa, ev_tOf, ev_tAnd, ev_tOr, ev_tNot, ev_andV, ev_orV, ev_notV, ev_upper, ev_yes, ev_comp, wipeE, notOwn, List.all_cons, List.all_nil, ev_range1, ev_range2, ev_isq, ev_zip2, ev_zip3, ev_enum, optR_some, bind_ok, Sat_ok, Sat_bind, List.getElem?_cons_zero, List.getElem?_cons_succ, List.set_cons_zero, List.set_cons_succ, List.length_cons, List.length_nil, Bool.true_and, Bool.and_true, Bool.and_self, Bool.or_true, Bool.true_or, Bool.false_or, Bool.or_false, Bool.not_true, Bool.not_false, Bool.false_and, Bool.and_false, if_true, if_false, Bool.false_eq_true, reduceIte, reduceCtorEq, opAdd, opSub, opMul, opDiv, opMod, opNeg, opI, opLt, opLe, opGt, opGe, opEq, opNe, opEq_int, opIs, opIsnot, opIsB, isNonP, opIx, opLen, opTuple, opList, opInt, opAbs, opStr, opSum, opMax, opMin, opMM, opAny, opAll, opAA, asSeq, asLst, top, frSeq, kdP, isa, id_eq, Option.map_some, Option.bind_some, List.length_map, fits1000 (show (((stepsK (okS n ds mk) q k).take r).flatMap (extR (okS n ds mk) q)).length + (extR (okS n ds mk) q row).length ≤ 1000000 by omega)]
          exact ⟨by first | trivial | rfl, _, fun o z => (by cases z), rfl⟩
        · have c5 : (mkR row j).length ≤ ds.length := by unfold mkR; rw [List.length_append, List.length_singleton]; omega
          have lt0 := ltaken_eq N (mkR row j) c5 false g''
          have lw := lwithin_eq (takenL (sdf false) n (mkR row j) ds) mk g'' (by rw [takenL_len (f := sdf false) (fun d hd => (N.d1 d hd).len), hmk]) (by rw [takenL_len (f := sdf false) (fun d hd => (N.d1 d hd).len)]; omega)
          simp only [ev_var, ev_any, ev_c, ev_bin, ev_binF, ev_chain, ev_un, ev_cons, ev_nil, ev_tup, ev_disp, ev_lst, ev_glo, ev_callB, ev_callF, ev_call, ev_if, ev_sl, ev_oN, ev_oS, ev_rev, ev_isa, ev_tOf, ev_tAnd, ev_tOr, ev_tNot, ev_andV, ev_orV, ev_notV, ev_upper, ev_yes, ev_comp, wipeE, notOwn, List.all_cons, List.all_nil, ev_range1, ev_range2, ev_isq, ev_zip2, ev_zip3, ev_enum, optR_some, bind_ok, Sat_ok, Sat_bind, List.getElem?_cons_zero, List.getElem?_cons_succ, List.set_cons_zero, List.set_cons_succ, List.length_cons, List.length_nil, Bool.true_and, Bool.and_true, Bool.and_self, Bool.or_true, Bool.true_or, Bool.false_or, Bool.or_false, Bool.not_true, Bool.not_false, Bool.false_and, Bool.and_false, if_true, if_false, Bool.false_eq_true, reduceIte, reduceCtorEq, opAdd, opSub, opMul, opDiv, opMod, opNeg, opI, opLt, opLe, opGt, opGe, opEq, opNe, opEq_int, opIs, opIsnot, opIsB, isNonP, opIx, opLen, opTuple, opList, opInt, opAbs, opStr, opSum, opMax, opMin, opMM, opAny, opAll, opAA, asSeq, asLst, top, frSeq, kdP, isa, id_eq, Option.map_some, Option.bind_some, List.length_map, fits1000 (show 1 ≤ 1000000 by omega), fits1000 (show row.length + 1 ≤ 1000000 by omega), snoc_ti]
          have lt1 : F_law_taken [netP n ds, ti (mkR row j), .int 0] g'' = .ok (ti (takenL (sdf false) n (mkR row j) ds)) g'' := lt0
          rw [lt1]
          simp only [ev_var, ev_any, ev_c, ev_bin, ev_binF, ev_chain, ev_un, ev_cons, ev_nil, ev_tup, ev_disp, ev_lst, ev_glo, ev_callB, ev_callF, ev_call, ev_if, ev_sl, ev_oN, ev_oS, ev_rev, ev_isa, ev_tOf, ev_tAnd, ev_tOr, ev_tNot, ev_andV, ev_orV, ev_notV, ev_upper, ev_yes, ev_comp, wipeE, notOwn, List.all_cons, List.all_nil, ev_range1, ev_range2, ev_isq, ev_zip2, ev_zip3, ev_enum, optR_some, bind_ok, Sat_ok, Sat_bind, List.getElem?_cons_zero, List.getElem?_cons_succ, List.set_cons_zero, List.set_cons_succ, List.length_cons, List.length_nil, Bool.true_and, Bool.and_true, Bool.and_self, Bool.or_true, Bool.true_or, Bool.false_or, Bool.or_false, Bool.not_true, Bool.not_false, Bool.false_and, Bool.and_false, if_true, if_false, Bool.false_eq_true, reduceIte, reduceCtorEq]
          rw [lw]
          simp only [ev_var, ev_any, ev_c, ev_bin, ev_binF, ev_chain, ev_un, ev_cons, ev_nil, ev_tup, ev_disp, ev_lst, ev_glo, ev_callB, ev_callF, ev_call, ev_if, ev_sl, ev_oN, ev_oS, ev_rev, ev_isa, ev_tOf, ev_tAnd, ev_tOr, ev_tNot, ev_andV, ev_orV, ev_notV, ev_upper, ev_yes, ev_comp, wipeE, notOwn, List.all_cons, List.all_nil, ev_range1, ev_range2, ev_isq, ev_zip2, ev_zip3, ev_enum, optR_some, bind_ok, Sat_ok, Sat_bind, List.getElem?_cons_zero, List.getElem?_cons_succ, List.set_cons_zero, List.set_cons_succ, List.length_cons, List.length_nil, Bool.true_and, Bool.and_true, Bool.and_self, Bool.or_true, Bool.true_or, Bool.false_or, Bool.or_false, Bool.not_true, Bool.not_false, Bool.false_and, Bool.and_false, if_true, if_false, Bool.false_eq_true, reduceIte, reduceCtorEq]
          exact ⟨rfl, fun _ => by first | trivial | rfl⟩
    · rintro e g'' ⟨rfl, s6, h6', rfl⟩
      rw [List.length_map, List.take_length]
      refine SatS.set ?_
      simp only [ev_var, ev_any, ev_c, ev_bin, ev_binF, ev_chain, ev_un, ev_cons, ev_nil, ev_tup, ev_disp, ev_lst, ev_glo, ev_callB, ev_callF, ev_call, ev_if, ev_sl, ev_oN, ev_oS, ev_rev, ev_isa, ev_tOf, ev_tAnd, ev_tOr, ev_tNot, ev_andV, ev_orV, ev_notV, ev_upper, ev_yes, ev_comp, wipeE, notOwn, List.all_cons, List.all_nil, ev_range1, ev_range2, ev_isq, ev_zip2, ev_zip3, ev_enum, optR_some, bind_ok, Sat_ok, Sat_bind, List.getElem?_cons_zero, List.getElem?_cons_succ, List.set_cons_zero, List.set_cons_succ, List.length_cons, List.length_nil, Bool.true_and, Bool.and_true, Bool.and_self, Bool.or_true, Bool.true_or, Bool.false_or, Bool.or_false, Bool.not_true, Bool.not_false, Bool.false_and, Bool.and_false, if_true, if_false, Bool.false_eq_true, reduceIte, reduceCtorEq]
      exact ⟨by first | trivial | rfl, _, _, _, h6', rfl⟩
  · rintro e g' ⟨rfl, s4, s5, s6, h6, rfl⟩
    rw [rangeN_len]
    refine SatS.ret ?_
    have no6 : notOwn [.val (netP n ds), .val (ti mk), .val (.int q), .val (.lst ((stepsK (okS n ds mk) q ds.length).map ti)), s4, s5, s6, .un] 6 = true := by
      cases s6 with
      | own o => exact absurd rfl (h6 o)
      | _ => rfl
    simp only [ev_var, ev_any, ev_c, ev_bin, ev_binF, ev_chain, ev_un, ev_cons, ev_nil, ev_tup, ev_disp, ev_lst, ev_glo, ev_callB, ev_callF, ev_call, ev_if, ev_sl, ev_oN, ev_oS, ev_rev, ev_isa, ev_tOf, ev_tAnd, ev_tOr, ev_tNot, ev_andV, ev_orV, ev_notV, ev_upper, ev_yes, ev_comp, wipeE, List.all_cons, List.all_nil, ev_range1, ev_range2, ev_isq, ev_zip2, ev_zip3, ev_enum, optR_some, bind_ok, Sat_ok, Sat_bind, List.getElem?_cons_zero, List.getElem?_cons_succ, List.set_cons_zero, List.set_cons_succ, List.length_cons, List.length_nil, Bool.true_and, Bool.and_true, Bool.and_self, Bool.or_true, Bool.true_or, Bool.false_or, Bool.or_false, Bool.not_true, Bool.not_false, Bool.false_and, Bool.and_false, if_true, if_false, Bool.false_eq_true, reduceIte, reduceCtorEq, no6, opAdd, opSub, opMul, opDiv, opMod, opNeg, opI, opLt, opLe, opGt, opGe, opEq, opNe, opEq_int, opIs, opIsnot, opIsB, isNonP, opIx, opLen, opTuple, opList, opInt, opAbs, opStr, opSum, opMax, opMin, opMM, opAny, opAll, opAA, asSeq, asLst, top, frSeq, kdP, isa, id_eq, Option.map_some, Option.bind_some]
    rw [comp_map ti pos ti (fun r hr => ⟨_, rfl, ?_⟩)]
    · have hne : ∀ r ∈ (stepsK (okS n ds mk) q ds.length).filter pos, r ≠ [] := fun r hr z => by
        have := (stepsK_mem (List.mem_filter.mp hr).1).1
        subst z
        have e : ([] : List Int).length = 0 := rfl
        omega
      simp only [ev_var, ev_any, ev_c, ev_bin, ev_binF, ev_chain, ev_un, ev_cons, ev_nil, ev_tup, ev_disp, ev_lst, ev_glo, ev_callB, ev_callF, ev_call, ev_if, ev_sl, ev_oN, ev_oS, ev_rev, ev_isa, ev_tOf, ev_tAnd, ev_tOr, ev_tNot, ev_andV, ev_orV, ev_notV, ev_upper, ev_yes, ev_comp, wipeE, notOwn, List.all_cons, List.all_nil, ev_range1, ev_range2, ev_isq, ev_zip2, ev_zip3, ev_enum, optR_some, bind_ok, Sat_ok, Sat_bind, List.getElem?_cons_zero, List.getElem?_cons_succ, List.set_cons_zero, List.set_cons_succ, List.length_cons, List.length_nil, Bool.true_and, Bool.and_true, Bool.and_self, Bool.or_true, Bool.true_or, Bool.false_or, Bool.or_false, Bool.not_true, Bool.not_false, Bool.false_and, Bool.and_false, if_true, if_false, Bool.false_eq_true, reduceIte, reduceCtorEq, sorted_eval hne]
      exact ⟨by first | trivial | rfl, by first | trivial | rfl⟩
    · simp only [ev_var, ev_any, ev_c, ev_bin, ev_binF, ev_chain, ev_un, ev_cons, ev_nil, ev_tup, ev_disp, ev_lst, ev_glo, ev_callB, ev_callF, ev_call, ev_if, ev_sl, ev_oN, ev_oS, ev_rev, ev_isa, ev_tOf, ev_tAnd, ev_tOr, ev_tNot, ev_andV, ev_orV, ev_notV, ev_upper, ev_yes, ev_comp, wipeE, notOwn, List.all_cons, List.all_nil, ev_range1, ev_range2, ev_isq, ev_zip2, ev_zip3, ev_enum, optR_some, bind_ok, Sat_ok, Sat_bind, List.getElem?_cons_zero, List.getElem?_cons_succ, List.set_cons_zero, List.set_cons_succ, List.length_cons, List.length_nil, Bool.true_and, Bool.and_true, Bool.and_self, Bool.or_true, Bool.true_or, Bool.false_or, Bool.or_false, Bool.not_true, Bool.not_false, Bool.false_and, Bool.and_false, if_true, if_false, Bool.false_eq_true, reduceIte, reduceCtorEq, opAdd, opSub, opMul, opDiv, opMod, opNeg, opI, opLt, opLe, opGt, opGe, opEq, opNe, opEq_int, opIs, opIsnot, opIsB, isNonP, opIx, opLen, opTuple, opList, opInt, opAbs, opStr, opSum, opMax, opMin, opMM, opAny, opAll, opAA, asSeq, asLst, top, frSeq, kdP, isa, id_eq, Option.map_some, Option.bind_some, ints_map, (sum_pos (stepsK_mem hr).2).1]
      exact ⟨by first | trivial | rfl, fun _ => by first | trivial | rfl⟩

theorem eqvPs_ints : ∀ a b : List Int, eqvPs (a.map PV.int) (b.map PV.int) = (a == b)
  | [], [] => by simp [eqvPs]
  | [], _ :: _ => by simp [eqvPs]
  | _ :: _, [] => by simp [eqvPs]
  | x :: a, y :: b => by
    rw [List.map_cons, List.map_cons]
    unfold eqvPs eqvP
    rw [eqvPs_ints a b]
    rfl
theorem eqvP_ti (a b : List Int) : eqvP (ti a) (ti b) = (a == b) := by
  show eqvP (.tup _) (.tup _) = _
  unfold eqvP
  exact eqvPs_ints a b
theorem eq_ti {f : Bool → Bool} {e : Q.Env} {g : G} (a b : List Int) : opEqB f e g (ti a) (ti b) = some (.bl (f (a == b))) := by
  unfold opEqB
  have h1 : top e g (ti a) = ti a := rfl
  have h2 : top e g (ti b) = ti b := rfl
  rw [h1, h2, if_pos (by rw [pure_ti 59, pure_ti 59]; rfl), eqvP_ti]
def bad (rows : List (List Int)) (r : List Int) : Bool := rows.any fun o => !(o == r) && leB r o
theorem greatest_eq {n : Nat} {ds : List (List Int × List Int)} (N : NetOk n ds) (mk : List Int) {q : Nat} (hq : q ≤ 2) (g : G) (rows : List (List Int)) (hrows : rows = sortR ((stepsK (okS n ds mk) q ds.length).filter pos)) :
    Fgreatest_steps [netP n ds, ti mk, .int q] g = .ok (.lst ((rows.filter fun r => !bad rows r).map ti)) g := by
  apply eq_of_sat
  refine satFn rfl ?_
  show SatS (Bgreatest_steps [.val (netP n ds), .val (ti mk), .val (.int q), .un, .un, .un] g) _ _
  refine SatS.seq (SatS.set ?_)
  simp only [ev_var, ev_any, ev_c, ev_bin, ev_binF, ev_chain, ev_un, ev_cons, ev_nil, ev_tup, ev_disp, ev_lst, ev_glo, ev_callB, ev_callF, ev_call, ev_if, ev_sl, ev_oN, ev_oS, ev_rev, ev_isa, ev_tOf, ev_tAnd, ev_tOr, ev_tNot, ev_andV, ev_orV, ev_notV, ev_upper, ev_yes, ev_comp, wipeE, notOwn, List.all_cons, List.all_nil, ev_range1, ev_range2, ev_isq, ev_zip2, ev_zip3, ev_enum, optR_some, bind_ok, Sat_ok, Sat_bind, List.getElem?_cons_zero, List.getElem?_cons_succ, List.set_cons_zero, List.set_cons_succ, List.length_cons, List.length_nil, Bool.true_and, Bool.and_true, Bool.and_self, Bool.or_true, Bool.true_or, Bool.false_or, Bool.or_false, Bool.not_true, Bool.not_false, Bool.false_and, Bool.and_false, if_true, if_false, Bool.false_eq_true, reduceIte, reduceCtorEq]
  rw [steps_at_eq N mk hq, ← hrows]
  simp only [ev_var, ev_any, ev_c, ev_bin, ev_binF, ev_chain, ev_un, ev_cons, ev_nil, ev_tup, ev_disp, ev_lst, ev_glo, ev_callB, ev_callF, ev_call, ev_if, ev_sl, ev_oN, ev_oS, ev_rev, ev_isa, ev_tOf, ev_tAnd, ev_tOr, ev_tNot, ev_andV, ev_orV, ev_notV, ev_upper, ev_yes, ev_comp, wipeE, notOwn, List.all_cons, List.all_nil, ev_range1, ev_range2, ev_isq, ev_zip2, ev_zip3, ev_enum, optR_some, bind_ok, Sat_ok, Sat_bind, List.getElem?_cons_zero, List.getElem?_cons_succ, List.set_cons_zero, List.set_cons_succ, List.length_cons, List.length_nil, Bool.true_and, Bool.and_true, Bool.and_self, Bool.or_true, Bool.true_or, Bool.false_or, Bool.or_false, Bool.not_true, Bool.not_false, Bool.false_and, Bool.and_false, if_true, if_false, Bool.false_eq_true, reduceIte, reduceCtorEq]
  refine SatS.ret ?_
  simp only [ev_var, ev_any, ev_c, ev_bin, ev_binF, ev_chain, ev_un, ev_cons, ev_nil, ev_tup, ev_disp, ev_lst, ev_glo, ev_callB, ev_callF, ev_call, ev_if, ev_sl, ev_oN, ev_oS, ev_rev, ev_isa, ev_tOf, ev_tAnd, ev_tOr, ev_tNot, ev_andV, ev_orV, ev_notV, ev_upper, ev_yes, ev_comp, wipeE, notOwn, List.all_cons, List.all_nil, ev_range1, ev_range2, ev_isq, ev_zip2, ev_zip3, ev_enum, optR_some, bind_ok, Sat_ok, Sat_bind, List.getElem?_cons_zero, List.getElem?_cons_succ, List.set_cons_zero, List.set_cons_succ, List.length_cons, List.length_nil, Bool.true_and, Bool.and_true, Bool.and_self, Bool.or_true, Bool.true_or, Bool.false_or, Bool.or_false, Bool.not_true, Bool.not_false, Bool.false_and, Bool.and_false, if_true, if_false, Bool.false_eq_true, reduceIte, reduceCtorEq, opAdd, opSub, opMul, opDiv, opMod, opNeg, opI, opLt, opLe, opGt, opGe, opEq, opNe, opEq_int, opIs, opIsnot, opIsB, isNonP, opIx, opLen, opTuple, opList, opInt, opAbs, opStr, opSum, opMax, opMin, opMM, opAny, opAll, opAA, asSeq, asLst, top, frSeq, kdP, isa, id_eq, Option.map_some, Option.bind_some]
  rw [comp_map ti (fun r => !bad rows r) ti (fun r hr => ⟨_, rfl, ?_⟩)]
  · simp only [ev_var, ev_any, ev_c, ev_bin, ev_binF, ev_chain, ev_un, ev_cons, ev_nil, ev_tup, ev_disp, ev_lst, ev_glo, ev_callB, ev_callF, ev_call, ev_if, ev_sl, ev_oN, ev_oS, ev_rev, ev_isa, ev_tOf, ev_tAnd, ev_tOr, ev_tNot, ev_andV, ev_orV, ev_notV, ev_upper, ev_yes, ev_comp, wipeE, notOwn, List.all_cons, List.all_nil, ev_range1, ev_range2, ev_isq, ev_zip2, ev_zip3, ev_enum, optR_some, bind_ok, Sat_ok, Sat_bind, List.getElem?_cons_zero, List.getElem?_cons_succ, List.set_cons_zero, List.set_cons_succ, List.length_cons, List.length_nil, Bool.true_and, Bool.and_true, Bool.and_self, Bool.or_true, Bool.true_or, Bool.false_or, Bool.or_false, Bool.not_true, Bool.not_false, Bool.false_and, Bool.and_false, if_true, if_false, Bool.false_eq_true, reduceIte, reduceCtorEq]
    exact ⟨by first | trivial | rfl, by first | trivial | rfl⟩
  · simp only [ev_var, ev_any, ev_c, ev_bin, ev_binF, ev_chain, ev_un, ev_cons, ev_nil, ev_tup, ev_disp, ev_lst, ev_glo, ev_callB, ev_callF, ev_call, ev_if, ev_sl, ev_oN, ev_oS, ev_rev, ev_isa, ev_tOf, ev_tAnd, ev_tOr, ev_tNot, ev_andV, ev_orV, ev_notV, ev_upper, ev_yes, ev_comp, wipeE, notOwn, List.all_cons, List.all_nil, ev_range1, ev_range2, ev_isq, ev_zip2, ev_zip3, ev_enum, optR_some, bind_ok, Sat_ok, Sat_bind, List.getElem?_cons_zero, List.getElem?_cons_succ, List.set_cons_zero, List.set_cons_succ, List.length_cons, List.length_nil, Bool.true_and, Bool.and_true, Bool.and_self, Bool.or_true, Bool.true_or, Bool.false_or, Bool.or_false, Bool.not_true, Bool.not_false, Bool.false_and, Bool.and_false, if_true, if_false, Bool.false_eq_true, reduceIte, reduceCtorEq, opAdd, opSub, opMul, opDiv, opMod, opNeg, opI, opLt, opLe, opGt, opGe, opEq, opNe, opEq_int, opIs, opIsnot, opIsB, isNonP, opIx, opLen, opTuple, opList, opInt, opAbs, opStr, opSum, opMax, opMin, opMM, opAny, opAll, opAA, asSeq, asLst, top, frSeq, kdP, isa, id_eq, Option.map_some, Option.bind_some]
    rw [comp_all ti (fun o => PV.bl (!(o == r) && leB r o)) (fun o ho => ⟨_, rfl, ?_⟩)]
    · have e1 : ((rows.map fun o => !(o == r) && leB r o).any id) = bad rows r := by
        unfold bad
        rw [List.any_map]; rfl
      simp only [ev_var, ev_any, ev_c, ev_bin, ev_binF, ev_chain, ev_un, ev_cons, ev_nil, ev_tup, ev_disp, ev_lst, ev_glo, ev_callB, ev_callF, ev_call, ev_if, ev_sl, ev_oN, ev_oS, ev_rev, ev_isa, ev_tOf, ev_tAnd, ev_tOr, ev_tNot, ev_andV, ev_orV, ev_notV, ev_upper, ev_yes, ev_comp, wipeE, notOwn, List.all_cons, List.all_nil, ev_range1, ev_range2, ev_isq, ev_zip2, ev_zip3, ev_enum, optR_some, bind_ok, Sat_ok, Sat_bind, List.getElem?_cons_zero, List.getElem?_cons_succ, List.set_cons_zero, List.set_cons_succ, List.length_cons, List.length_nil, Bool.true_and, Bool.and_true, Bool.and_self, Bool.or_true, Bool.true_or, Bool.false_or, Bool.or_false, Bool.not_true, Bool.not_false, Bool.false_and, Bool.and_false, if_true, if_false, Bool.false_eq_true, reduceIte, reduceCtorEq, opAdd, opSub, opMul, opDiv, opMod, opNeg, opI, opLt, opLe, opGt, opGe, opEq, opNe, opEq_int, opIs, opIsnot, opIsB, isNonP, opIx, opLen, opTuple, opList, opInt, opAbs, opStr, opSum, opMax, opMin, opMM, opAny, opAll, opAA, asSeq, asLst, top, frSeq, kdP, isa, id_eq, Option.map_some, Option.bind_some, bls_map, e1]
      exact ⟨by first | trivial | rfl, fun _ => by first | trivial | rfl⟩
    · simp only [ev_andV, ev_bin, ev_var, List.set_cons_zero, List.set_cons_succ, List.getElem?_cons_zero, List.getElem?_cons_succ, bind_ok, opNe, eq_ti, optR_some]
      cases h : (o == r) with
      | true => rfl
      | false =>
        show eCall Fis_within _ _ g = _
        simp only [ev_var, ev_any, ev_c, ev_bin, ev_binF, ev_chain, ev_un, ev_cons, ev_nil, ev_tup, ev_disp, ev_lst, ev_glo, ev_callB, ev_callF, ev_call, ev_if, ev_sl, ev_oN, ev_oS, ev_rev, ev_isa, ev_tOf, ev_tAnd, ev_tOr, ev_tNot, ev_andV, ev_orV, ev_notV, ev_upper, ev_yes, ev_comp, wipeE, notOwn, List.all_cons, List.all_nil, ev_range1, ev_range2, ev_isq, ev_zip2, ev_zip3, ev_enum, optR_some, bind_ok, Sat_ok, Sat_bind, List.getElem?_cons_zero, List.getElem?_cons_succ, List.set_cons_zero, List.set_cons_succ, List.length_cons, List.length_nil, Bool.true_and, Bool.and_true, Bool.and_self, Bool.or_true, Bool.true_or, Bool.false_or, Bool.or_false, Bool.not_true, Bool.not_false, Bool.false_and, Bool.and_false, if_true, if_false, Bool.false_eq_true, reduceIte, reduceCtorEq]
        rw [within_eq]
theorem lgreatest {n : Nat} {ds : List (List Int × List Int)} {e : Q.Env} {g : G} {rows : List (List Int)} {m : Nat} (hm : m ≤ 1000) (hr : ∀ r ∈ rows, r.length = m) (h6 : e[6]? = some (.val (.lst (rows.map ti)))) (h14 : notOwn e 14 = true) (h19 : notOwn e 19 = true) (hl : e.length = 20) (hk : rows.length ≤ 1000) :
    eLst (eComp (iSq (eVar 6)) [14] (.nm 14) (tOf (eBin opEq (eCallB opLen (aCons (eLst (eComp (iSq (eVar 6)) [19] (.nm 19) (tAnd' (tOf (eBin opNe (eVar 19) (eVar 14))) (tOf (eCall F_law_within (aCons (eVar 14) (aCons (eVar 19) aNil))))) (eVar 19))) aNil)) (eC (.int 0)))) (eVar 14)) e g = .ok (.lst ((rows.filter fun r => !bad rows r).map ti)) g := by
  have frs : frSeq (.lst (rows.map ti)) = some (rows.map ti) := rfl
  rw [ev_lst, ev_comp]
  simp only [List.all_cons, List.all_nil, h14, Bool.and_self, if_true, ev_isq, ev_var, h6, bind_ok, frs, optR_some]
  rw [comp_map ti (fun r => !bad rows r) ti (fun r hr' => ?_)]
  · rfl
  · have w0 : wipeE e [14] = e.set 14 .un := rfl
    have e6 : ((e.set 14 .un).set 14 (.val (ti r)))[6]? = some (.val (.lst (rows.map ti))) := by
      rw [List.set_set, List.getElem?_set_ne (by omega)]; exact h6
    have e14 : ((e.set 14 .un).set 14 (.val (ti r)))[14]? = some (.val (ti r)) := by
      rw [List.set_set, List.getElem?_set_self (by omega)]
    have n19 : notOwn ((e.set 14 .un).set 14 (.val (ti r))) 19 = true := by
      unfold notOwn at h19 ⊢
      rw [List.set_set, List.getElem?_set_ne (by omega)]; exact h19
    refine ⟨(e.set 14 .un).set 14 (.val (ti r)), rfl, ?_⟩
    generalize hE : (e.set 14 .un).set 14 (.val (ti r)) = E at e6 e14 n19 ⊢
    have El : E.length = 20 := by rw [← hE, List.length_set, List.length_set]; exact hl
    have inner : eComp (iSq (eVar 6)) [19] (.nm 19) (tAnd' (tOf (eBin opNe (eVar 19) (eVar 14))) (tOf (eCall F_law_within (aCons (eVar 14) (aCons (eVar 19) aNil))))) (eVar 19) E g = .ok ((rows.filter fun o => !(o == r) && leB r o).map ti) g := by
      rw [ev_comp]
      simp only [List.all_cons, List.all_nil, n19, Bool.and_self, if_true, ev_isq, ev_var, e6, bind_ok, frs, optR_some]
      rw [comp_map ti (fun o => !(o == r) && leB r o) ti (fun o ho => ?_)]
      have f14 : ((E.set 19 .un).set 19 (.val (ti o)))[14]? = some (.val (ti r)) := by
        rw [List.set_set, List.getElem?_set_ne (by omega)]; exact e14
      have f19 : ((E.set 19 .un).set 19 (.val (ti o)))[19]? = some (.val (ti o)) := by
        rw [List.set_set, List.getElem?_set_self (by omega)]
      refine ⟨(E.set 19 .un).set 19 (.val (ti o)), rfl, ?_⟩
      simp only [ev_tAnd, ev_tOf, ev_bin, ev_var, f14, f19, bind_ok, opNe, eq_ti, optR_some]
      refine ⟨?_, fun _ => by first | trivial | rfl⟩
      cases h : (o == r) with
      | true => rfl
      | false =>
        show tOf (eCall F_law_within _) _ g = _
        simp only [ev_tOf, ev_call, ev_cons, ev_nil, ev_var, f14, f19, bind_ok]
        rw [lwithin_eq r o g (by rw [hr r hr', hr o ho]) (by rw [hr r hr']; exact hm)]
        rfl
    have hln : (((rows.filter fun o => !(o == r) && leB r o).map ti).length == (0 : Nat)) = !bad rows r := by
      rw [List.length_map]
      unfold bad
      rw [Bool.eq_iff_iff, beq_iff_eq, List.length_eq_zero_iff, List.filter_eq_nil_iff, Bool.not_eq_true', List.any_eq_false]
    have hli : ((((rows.filter fun o => !(o == r) && leB r o).map ti).length : Int) == 0) = !bad rows r := by
      rw [← hln, Bool.eq_iff_iff, beq_iff_eq, beq_iff_eq]; omega
    simp only [ev_tOf, ev_bin, ev_callB, ev_cons, ev_nil, ev_lst, inner, ev_c, bind_ok, opLen, asSeq, Option.map_some, optR_some, opEq, opEq_int, hli, id_eq, ev_var, e14]
    exact ⟨by first | trivial | rfl, fun _ => by first | trivial | rfl⟩

/-! ## steps on bent values -/
def numOk : PV → Bool
  | .int i => decide (0 ≤ i) && decide (i ≤ 9)
  | _ => false
def intsB : PV → Bool
  | .tup xs => xs.all numOk
  | _ => false
def tupLen : PV → Nat → Bool
  | .tup xs, m => xs.length == m
  | _, _ => false
def posV : PV → Bool
  | .tup xs => xs.any fun x => match x with
    | .int i => decide (0 < i)
    | _ => false
  | _ => false
theorem isinstance_eq {v : PV} (h : dat v = true) (T : Kd) (e : Q.Env) (g : G) {f : EE} (hf : f e g = .ok v g) : ∃ k, kdP e g v = some k ∧ eIsa T f e g = .ok (.bl (isa k T)) g := by
  have : ∃ k, kdP e g v = some k := by cases v <;> first | exact ⟨_, rfl⟩ | cases h
  obtain ⟨k, hk⟩ := this
  refine ⟨k, hk, ?_⟩
  rw [ev_isa, hf, bind_ok]
  simp only [hk]
theorem is_integer_eq {v : PV} (h : dat v = true) (g : G) : Fis_integer [v] g = .ok (.bl (match v with
    | .int _ => true
    | _ => false)) g := by
  apply eq_of_sat
  refine satFn rfl ?_
  show SatS (Bis_integer [.val v] g) _ _
  refine SatS.ret ?_
  cases v with
  | bl b => simp only [ev_var, ev_any, ev_c, ev_bin, ev_binF, ev_chain, ev_un, ev_cons, ev_nil, ev_tup, ev_disp, ev_lst, ev_glo, ev_callB, ev_callF, ev_call, ev_if, ev_sl, ev_oN, ev_oS, ev_rev, ev_isa, ev_tOf, ev_tAnd, ev_tOr, ev_tNot, ev_andV, ev_orV, ev_notV, ev_upper, ev_yes, ev_comp, wipeE, notOwn, List.all_cons, List.all_nil, ev_range1, ev_range2, ev_isq, ev_zip2, ev_zip3, ev_enum, optR_some, bind_ok, Sat_ok, Sat_bind, List.getElem?_cons_zero, List.getElem?_cons_succ, List.set_cons_zero, List.set_cons_succ, List.length_cons, List.length_nil, Bool.true_and, Bool.and_true, Bool.and_self, Bool.or_true, Bool.true_or, Bool.false_or, Bool.or_false, Bool.not_true, Bool.not_false, Bool.false_and, Bool.and_false, if_true, if_false, Bool.false_eq_true, reduceIte, reduceCtorEq, opAdd, opSub, opMul, opDiv, opMod, opNeg, opI, opLt, opLe, opGt, opGe, opEq, opNe, opEq_int, opIs, opIsnot, opIsB, isNonP, opIx, opLen, opTuple, opList, opInt, opAbs, opStr, opSum, opMax, opMin, opMM, opAny, opAll, opAA, asSeq, asLst, top, frSeq, kdP, isa, id_eq, Option.map_some, Option.bind_some]; exact ⟨by first | trivial | rfl, by first | trivial | rfl⟩
  | int b => simp only [ev_var, ev_any, ev_c, ev_bin, ev_binF, ev_chain, ev_un, ev_cons, ev_nil, ev_tup, ev_disp, ev_lst, ev_glo, ev_callB, ev_callF, ev_call, ev_if, ev_sl, ev_oN, ev_oS, ev_rev, ev_isa, ev_tOf, ev_tAnd, ev_tOr, ev_tNot, ev_andV, ev_orV, ev_notV, ev_upper, ev_yes, ev_comp, wipeE, notOwn, List.all_cons, List.all_nil, ev_range1, ev_range2, ev_isq, ev_zip2, ev_zip3, ev_enum, optR_some, bind_ok, Sat_ok, Sat_bind, List.getElem?_cons_zero, List.getElem?_cons_succ, List.set_cons_zero, List.set_cons_succ, List.length_cons, List.length_nil, Bool.true_and, Bool.and_true, Bool.and_self, Bool.or_true, Bool.true_or, Bool.false_or, Bool.or_false, Bool.not_true, Bool.not_false, Bool.false_and, Bool.and_false, if_true, if_false, Bool.false_eq_true, reduceIte, reduceCtorEq, opAdd, opSub, opMul, opDiv, opMod, opNeg, opI, opLt, opLe, opGt, opGe, opEq, opNe, opEq_int, opIs, opIsnot, opIsB, isNonP, opIx, opLen, opTuple, opList, opInt, opAbs, opStr, opSum, opMax, opMin, opMM, opAny, opAll, opAA, asSeq, asLst, top, frSeq, kdP, isa, id_eq, Option.map_some, Option.bind_some]; exact ⟨by first | trivial | rfl, by first | trivial | rfl⟩
  | str b => simp only [ev_var, ev_any, ev_c, ev_bin, ev_binF, ev_chain, ev_un, ev_cons, ev_nil, ev_tup, ev_disp, ev_lst, ev_glo, ev_callB, ev_callF, ev_call, ev_if, ev_sl, ev_oN, ev_oS, ev_rev, ev_isa, ev_tOf, ev_tAnd, ev_tOr, ev_tNot, ev_andV, ev_orV, ev_notV, ev_upper, ev_yes, ev_comp, wipeE, notOwn, List.all_cons, List.all_nil, ev_range1, ev_range2, ev_isq, ev_zip2, ev_zip3, ev_enum, optR_some, bind_ok, Sat_ok, Sat_bind, List.getElem?_cons_zero, List.getElem?_cons_succ, List.set_cons_zero, List.set_cons_succ, List.length_cons, List.length_nil, Bool.true_and, Bool.and_true, Bool.and_self, Bool.or_true, Bool.true_or, Bool.false_or, Bool.or_false, Bool.not_true, Bool.not_false, Bool.false_and, Bool.and_false, if_true, if_false, Bool.false_eq_true, reduceIte, reduceCtorEq, opAdd, opSub, opMul, opDiv, opMod, opNeg, opI, opLt, opLe, opGt, opGe, opEq, opNe, opEq_int, opIs, opIsnot, opIsB, isNonP, opIx, opLen, opTuple, opList, opInt, opAbs, opStr, opSum, opMax, opMin, opMM, opAny, opAll, opAA, asSeq, asLst, top, frSeq, kdP, isa, id_eq, Option.map_some, Option.bind_some]; exact ⟨by first | trivial | rfl, by first | trivial | rfl⟩
  | tup b => simp only [ev_var, ev_any, ev_c, ev_bin, ev_binF, ev_chain, ev_un, ev_cons, ev_nil, ev_tup, ev_disp, ev_lst, ev_glo, ev_callB, ev_callF, ev_call, ev_if, ev_sl, ev_oN, ev_oS, ev_rev, ev_isa, ev_tOf, ev_tAnd, ev_tOr, ev_tNot, ev_andV, ev_orV, ev_notV, ev_upper, ev_yes, ev_comp, wipeE, notOwn, List.all_cons, List.all_nil, ev_range1, ev_range2, ev_isq, ev_zip2, ev_zip3, ev_enum, optR_some, bind_ok, Sat_ok, Sat_bind, List.getElem?_cons_zero, List.getElem?_cons_succ, List.set_cons_zero, List.set_cons_succ, List.length_cons, List.length_nil, Bool.true_and, Bool.and_true, Bool.and_self, Bool.or_true, Bool.true_or, Bool.false_or, Bool.or_false, Bool.not_true, Bool.not_false, Bool.false_and, Bool.and_false, if_true, if_false, Bool.false_eq_true, reduceIte, reduceCtorEq, opAdd, opSub, opMul, opDiv, opMod, opNeg, opI, opLt, opLe, opGt, opGe, opEq, opNe, opEq_int, opIs, opIsnot, opIsB, isNonP, opIx, opLen, opTuple, opList, opInt, opAbs, opStr, opSum, opMax, opMin, opMM, opAny, opAll, opAA, asSeq, asLst, top, frSeq, kdP, isa, id_eq, Option.map_some, Option.bind_some]; exact ⟨by first | trivial | rfl, by first | trivial | rfl⟩
  | lst b => simp only [ev_var, ev_any, ev_c, ev_bin, ev_binF, ev_chain, ev_un, ev_cons, ev_nil, ev_tup, ev_disp, ev_lst, ev_glo, ev_callB, ev_callF, ev_call, ev_if, ev_sl, ev_oN, ev_oS, ev_rev, ev_isa, ev_tOf, ev_tAnd, ev_tOr, ev_tNot, ev_andV, ev_orV, ev_notV, ev_upper, ev_yes, ev_comp, wipeE, notOwn, List.all_cons, List.all_nil, ev_range1, ev_range2, ev_isq, ev_zip2, ev_zip3, ev_enum, optR_some, bind_ok, Sat_ok, Sat_bind, List.getElem?_cons_zero, List.getElem?_cons_succ, List.set_cons_zero, List.set_cons_succ, List.length_cons, List.length_nil, Bool.true_and, Bool.and_true, Bool.and_self, Bool.or_true, Bool.true_or, Bool.false_or, Bool.or_false, Bool.not_true, Bool.not_false, Bool.false_and, Bool.and_false, if_true, if_false, Bool.false_eq_true, reduceIte, reduceCtorEq, opAdd, opSub, opMul, opDiv, opMod, opNeg, opI, opLt, opLe, opGt, opGe, opEq, opNe, opEq_int, opIs, opIsnot, opIsB, isNonP, opIx, opLen, opTuple, opList, opInt, opAbs, opStr, opSum, opMax, opMin, opMM, opAny, opAll, opAA, asSeq, asLst, top, frSeq, kdP, isa, id_eq, Option.map_some, Option.bind_some]; exact ⟨by first | trivial | rfl, by first | trivial | rfl⟩
  | non => simp only [ev_var, ev_any, ev_c, ev_bin, ev_binF, ev_chain, ev_un, ev_cons, ev_nil, ev_tup, ev_disp, ev_lst, ev_glo, ev_callB, ev_callF, ev_call, ev_if, ev_sl, ev_oN, ev_oS, ev_rev, ev_isa, ev_tOf, ev_tAnd, ev_tOr, ev_tNot, ev_andV, ev_orV, ev_notV, ev_upper, ev_yes, ev_comp, wipeE, notOwn, List.all_cons, List.all_nil, ev_range1, ev_range2, ev_isq, ev_zip2, ev_zip3, ev_enum, optR_some, bind_ok, Sat_ok, Sat_bind, List.getElem?_cons_zero, List.getElem?_cons_succ, List.set_cons_zero, List.set_cons_succ, List.length_cons, List.length_nil, Bool.true_and, Bool.and_true, Bool.and_self, Bool.or_true, Bool.true_or, Bool.false_or, Bool.or_false, Bool.not_true, Bool.not_false, Bool.false_and, Bool.and_false, if_true, if_false, Bool.false_eq_true, reduceIte, reduceCtorEq, opAdd, opSub, opMul, opDiv, opMod, opNeg, opI, opLt, opLe, opGt, opGe, opEq, opNe, opEq_int, opIs, opIsnot, opIsB, isNonP, opIx, opLen, opTuple, opList, opInt, opAbs, opStr, opSum, opMax, opMin, opMM, opAny, opAll, opAA, asSeq, asLst, top, frSeq, kdP, isa, id_eq, Option.map_some, Option.bind_some]; exact ⟨by first | trivial | rfl, by first | trivial | rfl⟩
  | _ => cases h
theorem is_number_eq {v : PV} (h : dat v = true) (g : G) : Fis_number [v, .int 0, .int 9] g = .ok (.bl (numOk v)) g := by
  apply eq_of_sat
  refine satFn rfl ?_
  show SatS (Bis_number [.val v, .val (.int 0), .val (.int 9)] g) _ _
  refine SatS.ret ?_
  simp only [ev_var, ev_any, ev_c, ev_bin, ev_binF, ev_chain, ev_un, ev_cons, ev_nil, ev_tup, ev_disp, ev_lst, ev_glo, ev_callB, ev_callF, ev_call, ev_if, ev_sl, ev_oN, ev_oS, ev_rev, ev_isa, ev_tOf, ev_tAnd, ev_tOr, ev_tNot, ev_andV, ev_orV, ev_notV, ev_upper, ev_yes, ev_comp, wipeE, notOwn, List.all_cons, List.all_nil, ev_range1, ev_range2, ev_isq, ev_zip2, ev_zip3, ev_enum, optR_some, bind_ok, Sat_ok, Sat_bind, List.getElem?_cons_zero, List.getElem?_cons_succ, List.set_cons_zero, List.set_cons_succ, List.length_cons, List.length_nil, Bool.true_and, Bool.and_true, Bool.and_self, Bool.or_true, Bool.true_or, Bool.false_or, Bool.or_false, Bool.not_true, Bool.not_false, Bool.false_and, Bool.and_false, if_true, if_false, Bool.false_eq_true, reduceIte, reduceCtorEq]
  rw [is_integer_eq h]
  cases v with
  | int i =>
    simp only [ev_var, ev_any, ev_c, ev_bin, ev_binF, ev_chain, ev_un, ev_cons, ev_nil, ev_tup, ev_disp, ev_lst, ev_glo, ev_callB, ev_callF, ev_call, ev_if, ev_sl, ev_oN, ev_oS, ev_rev, ev_isa, ev_tOf, ev_tAnd, ev_tOr, ev_tNot, ev_andV, ev_orV, ev_notV, ev_upper, ev_yes, ev_comp, wipeE, notOwn, List.all_cons, List.all_nil, ev_range1, ev_range2, ev_isq, ev_zip2, ev_zip3, ev_enum, optR_some, bind_ok, Sat_ok, Sat_bind, List.getElem?_cons_zero, List.getElem?_cons_succ, List.set_cons_zero, List.set_cons_succ, List.length_cons, List.length_nil, Bool.true_and, Bool.and_true, Bool.and_self, Bool.or_true, Bool.true_or, Bool.false_or, Bool.or_false, Bool.not_true, Bool.not_false, Bool.false_and, Bool.and_false, if_true, if_false, Bool.false_eq_true, reduceIte, reduceCtorEq, opAdd, opSub, opMul, opDiv, opMod, opNeg, opI, opLt, opLe, opGt, opGe, opEq, opNe, opEq_int, opIs, opIsnot, opIsB, isNonP, opIx, opLen, opTuple, opList, opInt, opAbs, opStr, opSum, opMax, opMin, opMM, opAny, opAll, opAA, asSeq, asLst, top, frSeq, kdP, isa, id_eq, Option.map_some, Option.bind_some]
    by_cases c : (0 : Int) ≤ i
    · simp only [decide_eq_true c, ev_var, ev_any, ev_c, ev_bin, ev_binF, ev_chain, ev_un, ev_cons, ev_nil, ev_tup, ev_disp, ev_lst, ev_glo, ev_callB, ev_callF, ev_call, ev_if, ev_sl, ev_oN, ev_oS, ev_rev, ev_isa, ev_tOf, ev_tAnd, ev_tOr, ev_tNot, ev_andV, ev_orV, ev_notV, ev_upper, ev_yes, ev_comp, wipeE, notOwn, List.all_cons, List.all_nil, ev_range1, ev_range2, ev_isq, ev_zip2, ev_zip3, ev_enum, optR_some, bind_ok, Sat_ok, Sat_bind, List.getElem?_cons_zero, List.getElem?_cons_succ, List.set_cons_zero, List.set_cons_succ, List.length_cons, List.length_nil, Bool.true_and, Bool.and_true, Bool.and_self, Bool.or_true, Bool.true_or, Bool.false_or, Bool.or_false, Bool.not_true, Bool.not_false, Bool.false_and, Bool.and_false, if_true, if_false, Bool.false_eq_true, reduceIte, reduceCtorEq, opAdd, opSub, opMul, opDiv, opMod, opNeg, opI, opLt, opLe, opGt, opGe, opEq, opNe, opEq_int, opIs, opIsnot, opIsB, isNonP, opIx, opLen, opTuple, opList, opInt, opAbs, opStr, opSum, opMax, opMin, opMM, opAny, opAll, opAA, asSeq, asLst, top, frSeq, kdP, isa, id_eq, Option.map_some, Option.bind_some]
      refine ⟨?_, by first | trivial | rfl⟩
      simp only [numOk, decide_eq_true c, Bool.true_and]
    · simp only [decide_eq_false c, ev_var, ev_any, ev_c, ev_bin, ev_binF, ev_chain, ev_un, ev_cons, ev_nil, ev_tup, ev_disp, ev_lst, ev_glo, ev_callB, ev_callF, ev_call, ev_if, ev_sl, ev_oN, ev_oS, ev_rev, ev_isa, ev_tOf, ev_tAnd, ev_tOr, ev_tNot, ev_andV, ev_orV, ev_notV, ev_upper, ev_yes, ev_comp, wipeE, notOwn, List.all_cons, List.all_nil, ev_range1, ev_range2, ev_isq, ev_zip2, ev_zip3, ev_enum, optR_some, bind_ok, Sat_ok, Sat_bind, List.getElem?_cons_zero, List.getElem?_cons_succ, List.set_cons_zero, List.set_cons_succ, List.length_cons, List.length_nil, Bool.true_and, Bool.and_true, Bool.and_self, Bool.or_true, Bool.true_or, Bool.false_or, Bool.or_false, Bool.not_true, Bool.not_false, Bool.false_and, Bool.and_false, if_true, if_false, Bool.false_eq_true, reduceIte, reduceCtorEq, opAdd, opSub, opMul, opDiv, opMod, opNeg, opI, opLt, opLe, opGt, opGe, opEq, opNe, opEq_int, opIs, opIsnot, opIsB, isNonP, opIx, opLen, opTuple, opList, opInt, opAbs, opStr, opSum, opMax, opMin, opMM, opAny, opAll, opAA, asSeq, asLst, top, frSeq, kdP, isa, id_eq, Option.map_some, Option.bind_some]
      refine ⟨?_, by first | trivial | rfl⟩
      simp only [numOk, decide_eq_false c, Bool.false_and]
  | ref _ => cases h
  | bor _ => cases h
  | ext _ => cases h
  | scr _ => cases h
  | _ => simp only [ev_var, ev_any, ev_c, ev_bin, ev_binF, ev_chain, ev_un, ev_cons, ev_nil, ev_tup, ev_disp, ev_lst, ev_glo, ev_callB, ev_callF, ev_call, ev_if, ev_sl, ev_oN, ev_oS, ev_rev, ev_isa, ev_tOf, ev_tAnd, ev_tOr, ev_tNot, ev_andV, ev_orV, ev_notV, ev_upper, ev_yes, ev_comp, wipeE, notOwn, List.all_cons, List.all_nil, ev_range1, ev_range2, ev_isq, ev_zip2, ev_zip3, ev_enum, optR_some, bind_ok, Sat_ok, Sat_bind, List.getElem?_cons_zero, List.getElem?_cons_succ, List.set_cons_zero, List.set_cons_succ, List.length_cons, List.length_nil, Bool.true_and, Bool.and_true, Bool.and_self, Bool.or_true, Bool.true_or, Bool.false_or, Bool.or_false, Bool.not_true, Bool.not_false, Bool.false_and, Bool.and_false, if_true, if_false, Bool.false_eq_true, reduceIte, reduceCtorEq]; exact ⟨by first | trivial | rfl, by first | trivial | rfl⟩
theorem lint_eq {v : PV} (h : dat v = true) (g : G) : F_law_int [v, .int 0, .int 9] g = .ok (.bl (numOk v)) g := by
  apply eq_of_sat
  refine satFn rfl ?_
  show SatS (B_law_int [.val v, .val (.int 0), .val (.int 9)] g) _ _
  refine SatS.ret ?_
  simp only [ev_var, ev_any, ev_c, ev_bin, ev_binF, ev_chain, ev_un, ev_cons, ev_nil, ev_tup, ev_disp, ev_lst, ev_glo, ev_callB, ev_callF, ev_call, ev_if, ev_sl, ev_oN, ev_oS, ev_rev, ev_isa, ev_tOf, ev_tAnd, ev_tOr, ev_tNot, ev_andV, ev_orV, ev_notV, ev_upper, ev_yes, ev_comp, wipeE, notOwn, List.all_cons, List.all_nil, ev_range1, ev_range2, ev_isq, ev_zip2, ev_zip3, ev_enum, optR_some, bind_ok, Sat_ok, Sat_bind, List.getElem?_cons_zero, List.getElem?_cons_succ, List.set_cons_zero, List.set_cons_succ, List.length_cons, List.length_nil, Bool.true_and, Bool.and_true, Bool.and_self, Bool.or_true, Bool.true_or, Bool.false_or, Bool.or_false, Bool.not_true, Bool.not_false, Bool.false_and, Bool.and_false, if_true, if_false, Bool.false_eq_true, reduceIte, reduceCtorEq]
  rw [kind_eq h]
  cases v with
  | int i =>
    simp only [ev_var, ev_any, ev_c, ev_bin, ev_binF, ev_chain, ev_un, ev_cons, ev_nil, ev_tup, ev_disp, ev_lst, ev_glo, ev_callB, ev_callF, ev_call, ev_if, ev_sl, ev_oN, ev_oS, ev_rev, ev_isa, ev_tOf, ev_tAnd, ev_tOr, ev_tNot, ev_andV, ev_orV, ev_notV, ev_upper, ev_yes, ev_comp, wipeE, notOwn, List.all_cons, List.all_nil, ev_range1, ev_range2, ev_isq, ev_zip2, ev_zip3, ev_enum, optR_some, bind_ok, Sat_ok, Sat_bind, List.getElem?_cons_zero, List.getElem?_cons_succ, List.set_cons_zero, List.set_cons_succ, List.length_cons, List.length_nil, Bool.true_and, Bool.and_true, Bool.and_self, Bool.or_true, Bool.true_or, Bool.false_or, Bool.or_false, Bool.not_true, Bool.not_false, Bool.false_and, Bool.and_false, if_true, if_false, Bool.false_eq_true, reduceIte, reduceCtorEq, opAdd, opSub, opMul, opDiv, opMod, opNeg, opI, opLt, opLe, opGt, opGe, opEq, opNe, opEq_int, opIs, opIsnot, opIsB, isNonP, opIx, opLen, opTuple, opList, opInt, opAbs, opStr, opSum, opMax, opMin, opMM, opAny, opAll, opAA, asSeq, asLst, top, frSeq, kdP, isa, id_eq, Option.map_some, Option.bind_some, kindN, beq_self_eq_true]
    by_cases c : (0 : Int) ≤ i
    · simp only [decide_eq_true c, ev_var, ev_any, ev_c, ev_bin, ev_binF, ev_chain, ev_un, ev_cons, ev_nil, ev_tup, ev_disp, ev_lst, ev_glo, ev_callB, ev_callF, ev_call, ev_if, ev_sl, ev_oN, ev_oS, ev_rev, ev_isa, ev_tOf, ev_tAnd, ev_tOr, ev_tNot, ev_andV, ev_orV, ev_notV, ev_upper, ev_yes, ev_comp, wipeE, notOwn, List.all_cons, List.all_nil, ev_range1, ev_range2, ev_isq, ev_zip2, ev_zip3, ev_enum, optR_some, bind_ok, Sat_ok, Sat_bind, List.getElem?_cons_zero, List.getElem?_cons_succ, List.set_cons_zero, List.set_cons_succ, List.length_cons, List.length_nil, Bool.true_and, Bool.and_true, Bool.and_self, Bool.or_true, Bool.true_or, Bool.false_or, Bool.or_false, Bool.not_true, Bool.not_false, Bool.false_and, Bool.and_false, if_true, if_false, Bool.false_eq_true, reduceIte, reduceCtorEq, opAdd, opSub, opMul, opDiv, opMod, opNeg, opI, opLt, opLe, opGt, opGe, opEq, opNe, opEq_int, opIs, opIsnot, opIsB, isNonP, opIx, opLen, opTuple, opList, opInt, opAbs, opStr, opSum, opMax, opMin, opMM, opAny, opAll, opAA, asSeq, asLst, top, frSeq, kdP, isa, id_eq, Option.map_some, Option.bind_some]
      refine ⟨?_, by first | trivial | rfl⟩
      simp only [numOk, decide_eq_true c, Bool.true_and]
    · simp only [decide_eq_false c, ev_var, ev_any, ev_c, ev_bin, ev_binF, ev_chain, ev_un, ev_cons, ev_nil, ev_tup, ev_disp, ev_lst, ev_glo, ev_callB, ev_callF, ev_call, ev_if, ev_sl, ev_oN, ev_oS, ev_rev, ev_isa, ev_tOf, ev_tAnd, ev_tOr, ev_tNot, ev_andV, ev_orV, ev_notV, ev_upper, ev_yes, ev_comp, wipeE, notOwn, List.all_cons, List.all_nil, ev_range1, ev_range2, ev_isq, ev_zip2, ev_zip3, ev_enum, optR_some, bind_ok, Sat_ok, Sat_bind, List.getElem?_cons_zero, List.getElem?_cons_succ, List.set_cons_zero, List.set_cons_succ, List.length_cons, List.length_nil, Bool.true_and, Bool.and_true, Bool.and_self, Bool.or_true, Bool.true_or, Bool.false_or, Bool.or_false, Bool.not_true, Bool.not_false, Bool.false_and, Bool.and_false, if_true, if_false, Bool.false_eq_true, reduceIte, reduceCtorEq, opAdd, opSub, opMul, opDiv, opMod, opNeg, opI, opLt, opLe, opGt, opGe, opEq, opNe, opEq_int, opIs, opIsnot, opIsB, isNonP, opIx, opLen, opTuple, opList, opInt, opAbs, opStr, opSum, opMax, opMin, opMM, opAny, opAll, opAA, asSeq, asLst, top, frSeq, kdP, isa, id_eq, Option.map_some, Option.bind_some]
      refine ⟨?_, by first | trivial | rfl⟩
      simp only [numOk, decide_eq_false c, Bool.false_and]
  | ref _ => cases h
  | bor _ => cases h
  | ext _ => cases h
  | scr _ => cases h
  | _ =>
    simp only [ev_var, ev_any, ev_c, ev_bin, ev_binF, ev_chain, ev_un, ev_cons, ev_nil, ev_tup, ev_disp, ev_lst, ev_glo, ev_callB, ev_callF, ev_call, ev_if, ev_sl, ev_oN, ev_oS, ev_rev, ev_isa, ev_tOf, ev_tAnd, ev_tOr, ev_tNot, ev_andV, ev_orV, ev_notV, ev_upper, ev_yes, ev_comp, wipeE, notOwn, List.all_cons, List.all_nil, ev_range1, ev_range2, ev_isq, ev_zip2, ev_zip3, ev_enum, optR_some, bind_ok, Sat_ok, Sat_bind, List.getElem?_cons_zero, List.getElem?_cons_succ, List.set_cons_zero, List.set_cons_succ, List.length_cons, List.length_nil, Bool.true_and, Bool.and_true, Bool.and_self, Bool.or_true, Bool.true_or, Bool.false_or, Bool.or_false, Bool.not_true, Bool.not_false, Bool.false_and, Bool.and_false, if_true, if_false, Bool.false_eq_true, reduceIte, reduceCtorEq, opAdd, opSub, opMul, opDiv, opMod, opNeg, opI, opLt, opLe, opGt, opGe, opEq, opNe, opEq_int, opIs, opIsnot, opIsB, isNonP, opIx, opLen, opTuple, opList, opInt, opAbs, opStr, opSum, opMax, opMin, opMM, opAny, opAll, opAA, asSeq, asLst, top, frSeq, kdP, isa, id_eq, Option.map_some, Option.bind_some, kindN]
    exact ⟨by first | trivial | rfl, by first | trivial | rfl⟩
/-- data on the top and one below -/
def dat2 (v : PV) : Prop := dat v = true ∧ ∀ xs, v = .tup xs → xs.length ≤ 1000 ∧ ∀ x ∈ xs, dat x = true
theorem lints_eq {v : PV} (h : dat2 v) (g : G) : F_law_ints [v, .int 0, .int 9] g = .ok (.bl (intsB v)) g := by
  apply eq_of_sat
  refine satFn rfl ?_
  show SatS (B_law_ints [.val v, .val (.int 0), .val (.int 9), .un] g) _ _
  refine SatS.seq (SatS.ite ?_)
  have hd := h.1
  cases v with
  | tup xs =>
    simp only [ev_var, ev_any, ev_c, ev_bin, ev_binF, ev_chain, ev_un, ev_cons, ev_nil, ev_tup, ev_disp, ev_lst, ev_glo, ev_callB, ev_callF, ev_call, ev_if, ev_sl, ev_oN, ev_oS, ev_rev, ev_isa, ev_tOf, ev_tAnd, ev_tOr, ev_tNot, ev_andV, ev_orV, ev_notV, ev_upper, ev_yes, ev_comp, wipeE, notOwn, List.all_cons, List.all_nil, ev_range1, ev_range2, ev_isq, ev_zip2, ev_zip3, ev_enum, optR_some, bind_ok, Sat_ok, Sat_bind, List.getElem?_cons_zero, List.getElem?_cons_succ, List.set_cons_zero, List.set_cons_succ, List.length_cons, List.length_nil, Bool.true_and, Bool.and_true, Bool.and_self, Bool.or_true, Bool.true_or, Bool.false_or, Bool.or_false, Bool.not_true, Bool.not_false, Bool.false_and, Bool.and_false, if_true, if_false, Bool.false_eq_true, reduceIte, reduceCtorEq, opAdd, opSub, opMul, opDiv, opMod, opNeg, opI, opLt, opLe, opGt, opGe, opEq, opNe, opEq_int, opIs, opIsnot, opIsB, isNonP, opIx, opLen, opTuple, opList, opInt, opAbs, opStr, opSum, opMax, opMin, opMM, opAny, opAll, opAA, asSeq, asLst, top, frSeq, kdP, isa, id_eq, Option.map_some, Option.bind_some]
    refine SatS.nil (SatS.seq (SatS.for_ ?_))
    simp only [ev_var, ev_any, ev_c, ev_bin, ev_binF, ev_chain, ev_un, ev_cons, ev_nil, ev_tup, ev_disp, ev_lst, ev_glo, ev_callB, ev_callF, ev_call, ev_if, ev_sl, ev_oN, ev_oS, ev_rev, ev_isa, ev_tOf, ev_tAnd, ev_tOr, ev_tNot, ev_andV, ev_orV, ev_notV, ev_upper, ev_yes, ev_comp, wipeE, notOwn, List.all_cons, List.all_nil, ev_range1, ev_range2, ev_isq, ev_zip2, ev_zip3, ev_enum, optR_some, bind_ok, Sat_ok, Sat_bind, List.getElem?_cons_zero, List.getElem?_cons_succ, List.set_cons_zero, List.set_cons_succ, List.length_cons, List.length_nil, Bool.true_and, Bool.and_true, Bool.and_self, Bool.or_true, Bool.true_or, Bool.false_or, Bool.or_false, Bool.not_true, Bool.not_false, Bool.false_and, Bool.and_false, if_true, if_false, Bool.false_eq_true, reduceIte, reduceCtorEq, opAdd, opSub, opMul, opDiv, opMod, opNeg, opI, opLt, opLe, opGt, opGe, opEq, opNe, opEq_int, opIs, opIsnot, opIsB, isNonP, opIx, opLen, opTuple, opList, opInt, opAbs, opStr, opSum, opMax, opMin, opMM, opAny, opAll, opAA, asSeq, asLst, top, frSeq, kdP, isa, id_eq, Option.map_some, Option.bind_some]
    obtain ⟨hl, hx⟩ := h.2 xs rfl
    cases hc : xs.all numOk with
    | true =>
      refine sat_for (fun k e g' => g' = g ∧ ∃ s3 : SV, e = [.val (.tup xs), .val (.int 0), .val (.int 9), s3]) ?_ ?_ ⟨rfl, _, rfl⟩
      · rintro k x e g' hx' ⟨rfl, s3, rfl⟩
        have hm := List.mem_of_getElem? hx'
        refine ⟨_, rfl, SatS.ite ?_⟩
        simp only [ev_var, ev_any, ev_c, ev_bin, ev_binF, ev_chain, ev_un, ev_cons, ev_nil, ev_tup, ev_disp, ev_lst, ev_glo, ev_callB, ev_callF, ev_call, ev_if, ev_sl, ev_oN, ev_oS, ev_rev, ev_isa, ev_tOf, ev_tAnd, ev_tOr, ev_tNot, ev_andV, ev_orV, ev_notV, ev_upper, ev_yes, ev_comp, wipeE, notOwn, List.all_cons, List.all_nil, ev_range1, ev_range2, ev_isq, ev_zip2, ev_zip3, ev_enum, optR_some, bind_ok, Sat_ok, Sat_bind, List.getElem?_cons_zero, List.getElem?_cons_succ, List.set_cons_zero, List.set_cons_succ, List.length_cons, List.length_nil, Bool.true_and, Bool.and_true, Bool.and_self, Bool.or_true, Bool.true_or, Bool.false_or, Bool.or_false, Bool.not_true, Bool.not_false, Bool.false_and, Bool.and_false, if_true, if_false, Bool.false_eq_true, reduceIte, reduceCtorEq]
        rw [lint_eq (hx x hm), List.all_eq_true.mp hc x hm]
        simp only [ev_var, ev_any, ev_c, ev_bin, ev_binF, ev_chain, ev_un, ev_cons, ev_nil, ev_tup, ev_disp, ev_lst, ev_glo, ev_callB, ev_callF, ev_call, ev_if, ev_sl, ev_oN, ev_oS, ev_rev, ev_isa, ev_tOf, ev_tAnd, ev_tOr, ev_tNot, ev_andV, ev_orV, ev_notV, ev_upper, ev_yes, ev_comp, wipeE, notOwn, List.all_cons, List.all_nil, ev_range1, ev_range2, ev_isq, ev_zip2, ev_zip3, ev_enum, optR_some, bind_ok, Sat_ok, Sat_bind, List.getElem?_cons_zero, List.getElem?_cons_succ, List.set_cons_zero, List.set_cons_succ, List.length_cons, List.length_nil, Bool.true_and, Bool.and_true, Bool.and_self, Bool.or_true, Bool.true_or, Bool.false_or, Bool.or_false, Bool.not_true, Bool.not_false, Bool.false_and, Bool.and_false, if_true, if_false, Bool.false_eq_true, reduceIte, reduceCtorEq]
        exact SatS.nil ⟨rfl, _, rfl⟩
      · rintro e g' ⟨rfl, s3, rfl⟩
        refine SatS.ret ?_
        simp only [ev_var, ev_any, ev_c, ev_bin, ev_binF, ev_chain, ev_un, ev_cons, ev_nil, ev_tup, ev_disp, ev_lst, ev_glo, ev_callB, ev_callF, ev_call, ev_if, ev_sl, ev_oN, ev_oS, ev_rev, ev_isa, ev_tOf, ev_tAnd, ev_tOr, ev_tNot, ev_andV, ev_orV, ev_notV, ev_upper, ev_yes, ev_comp, wipeE, notOwn, List.all_cons, List.all_nil, ev_range1, ev_range2, ev_isq, ev_zip2, ev_zip3, ev_enum, optR_some, bind_ok, Sat_ok, Sat_bind, List.getElem?_cons_zero, List.getElem?_cons_succ, List.set_cons_zero, List.set_cons_succ, List.length_cons, List.length_nil, Bool.true_and, Bool.and_true, Bool.and_self, Bool.or_true, Bool.true_or, Bool.false_or, Bool.or_false, Bool.not_true, Bool.not_false, Bool.false_and, Bool.and_false, if_true, if_false, Bool.false_eq_true, reduceIte, reduceCtorEq]
        exact ⟨by simp only [intsB, hc], trivial⟩
    | false =>
      -- the first that is none ends the walk
      have hbad : ∃ k, k < xs.length ∧ ∀ x, xs[k]? = some x → numOk x = false := by
        obtain ⟨x, hx1, hx2⟩ := List.all_eq_false.mp hc
        obtain ⟨k, hk⟩ := List.getElem?_of_mem hx1
        exact ⟨k, (List.getElem?_eq_some_iff.mp hk).1, fun y hy => by rw [hk] at hy; cases hy; simpa using hx2⟩
      obtain ⟨j, hj, hjb⟩ := hbad
      refine sat_for (fun k e g' => k ≤ j ∧ g' = g ∧ ∃ s3 : SV, e = [.val (.tup xs), .val (.int 0), .val (.int 9), s3]) ?_ ?_ ⟨Nat.zero_le _, rfl, _, rfl⟩
      · rintro k x e g' hx' ⟨hkj, rfl, s3, rfl⟩
        have hm := List.mem_of_getElem? hx'
        refine ⟨_, rfl, SatS.ite ?_⟩
        simp only [ev_var, ev_any, ev_c, ev_bin, ev_binF, ev_chain, ev_un, ev_cons, ev_nil, ev_tup, ev_disp, ev_lst, ev_glo, ev_callB, ev_callF, ev_call, ev_if, ev_sl, ev_oN, ev_oS, ev_rev, ev_isa, ev_tOf, ev_tAnd, ev_tOr, ev_tNot, ev_andV, ev_orV, ev_notV, ev_upper, ev_yes, ev_comp, wipeE, notOwn, List.all_cons, List.all_nil, ev_range1, ev_range2, ev_isq, ev_zip2, ev_zip3, ev_enum, optR_some, bind_ok, Sat_ok, Sat_bind, List.getElem?_cons_zero, List.getElem?_cons_succ, List.set_cons_zero, List.set_cons_succ, List.length_cons, List.length_nil, Bool.true_and, Bool.and_true, Bool.and_self, Bool.or_true, Bool.true_or, Bool.false_or, Bool.or_false, Bool.not_true, Bool.not_false, Bool.false_and, Bool.and_false, if_true, if_false, Bool.false_eq_true, reduceIte, reduceCtorEq]
        rw [lint_eq (hx x hm)]
        simp only [ev_var, ev_any, ev_c, ev_bin, ev_binF, ev_chain, ev_un, ev_cons, ev_nil, ev_tup, ev_disp, ev_lst, ev_glo, ev_callB, ev_callF, ev_call, ev_if, ev_sl, ev_oN, ev_oS, ev_rev, ev_isa, ev_tOf, ev_tAnd, ev_tOr, ev_tNot, ev_andV, ev_orV, ev_notV, ev_upper, ev_yes, ev_comp, wipeE, notOwn, List.all_cons, List.all_nil, ev_range1, ev_range2, ev_isq, ev_zip2, ev_zip3, ev_enum, optR_some, bind_ok, Sat_ok, Sat_bind, List.getElem?_cons_zero, List.getElem?_cons_succ, List.set_cons_zero, List.set_cons_succ, List.length_cons, List.length_nil, Bool.true_and, Bool.and_true, Bool.and_self, Bool.or_true, Bool.true_or, Bool.false_or, Bool.or_false, Bool.not_true, Bool.not_false, Bool.false_and, Bool.and_false, if_true, if_false, Bool.false_eq_true, reduceIte, reduceCtorEq]
        cases hn : numOk x with
        | true =>
          refine SatS.nil ⟨?_, rfl, _, rfl⟩
          have : k ≠ j := fun z => by rw [z] at hx'; rw [hjb x hx'] at hn; cases hn
          omega
        | false =>
          refine SatS.ret ?_
          simp only [ev_var, ev_any, ev_c, ev_bin, ev_binF, ev_chain, ev_un, ev_cons, ev_nil, ev_tup, ev_disp, ev_lst, ev_glo, ev_callB, ev_callF, ev_call, ev_if, ev_sl, ev_oN, ev_oS, ev_rev, ev_isa, ev_tOf, ev_tAnd, ev_tOr, ev_tNot, ev_andV, ev_orV, ev_notV, ev_upper, ev_yes, ev_comp, wipeE, notOwn, List.all_cons, List.all_nil, ev_range1, ev_range2, ev_isq, ev_zip2, ev_zip3, ev_enum, optR_some, bind_ok, Sat_ok, Sat_bind, List.getElem?_cons_zero, List.getElem?_cons_succ, List.set_cons_zero, List.set_cons_succ, List.length_cons, List.length_nil, Bool.true_and, Bool.and_true, Bool.and_self, Bool.or_true, Bool.true_or, Bool.false_or, Bool.or_false, Bool.not_true, Bool.not_false, Bool.false_and, Bool.and_false, if_true, if_false, Bool.false_eq_true, reduceIte, reduceCtorEq]
          exact ⟨by simp only [intsB, hc], trivial⟩
      · rintro e g' ⟨hkj, _⟩
        omega
  | ref _ => cases hd
  | bor _ => cases hd
  | ext _ => cases hd
  | scr _ => cases hd
  | _ =>
    simp only [ev_var, ev_any, ev_c, ev_bin, ev_binF, ev_chain, ev_un, ev_cons, ev_nil, ev_tup, ev_disp, ev_lst, ev_glo, ev_callB, ev_callF, ev_call, ev_if, ev_sl, ev_oN, ev_oS, ev_rev, ev_isa, ev_tOf, ev_tAnd, ev_tOr, ev_tNot, ev_andV, ev_orV, ev_notV, ev_upper, ev_yes, ev_comp, wipeE, notOwn, List.all_cons, List.all_nil, ev_range1, ev_range2, ev_isq, ev_zip2, ev_zip3, ev_enum, optR_some, bind_ok, Sat_ok, Sat_bind, List.getElem?_cons_zero, List.getElem?_cons_succ, List.set_cons_zero, List.set_cons_succ, List.length_cons, List.length_nil, Bool.true_and, Bool.and_true, Bool.and_self, Bool.or_true, Bool.true_or, Bool.false_or, Bool.or_false, Bool.not_true, Bool.not_false, Bool.false_and, Bool.and_false, if_true, if_false, Bool.false_eq_true, reduceIte, reduceCtorEq, opAdd, opSub, opMul, opDiv, opMod, opNeg, opI, opLt, opLe, opGt, opGe, opEq, opNe, opEq_int, opIs, opIsnot, opIsB, isNonP, opIx, opLen, opTuple, opList, opInt, opAbs, opStr, opSum, opMax, opMin, opMM, opAny, opAll, opAA, asSeq, asLst, top, frSeq, kdP, isa, id_eq, Option.map_some, Option.bind_some]
    refine SatS.ret ?_
    simp only [ev_var, ev_any, ev_c, ev_bin, ev_binF, ev_chain, ev_un, ev_cons, ev_nil, ev_tup, ev_disp, ev_lst, ev_glo, ev_callB, ev_callF, ev_call, ev_if, ev_sl, ev_oN, ev_oS, ev_rev, ev_isa, ev_tOf, ev_tAnd, ev_tOr, ev_tNot, ev_andV, ev_orV, ev_notV, ev_upper, ev_yes, ev_comp, wipeE, notOwn, List.all_cons, List.all_nil, ev_range1, ev_range2, ev_isq, ev_zip2, ev_zip3, ev_enum, optR_some, bind_ok, Sat_ok, Sat_bind, List.getElem?_cons_zero, List.getElem?_cons_succ, List.set_cons_zero, List.set_cons_succ, List.length_cons, List.length_nil, Bool.true_and, Bool.and_true, Bool.and_self, Bool.or_true, Bool.true_or, Bool.false_or, Bool.or_false, Bool.not_true, Bool.not_false, Bool.false_and, Bool.and_false, if_true, if_false, Bool.false_eq_true, reduceIte, reduceCtorEq]
    exact ⟨by first | trivial | rfl, by first | trivial | rfl⟩
theorem is_tuple_eq {v : PV} (h : dat2 v) (m : Nat) (g : G) : Fis_tuple [v, .int m] g = .ok (.bl (tupLen v m)) g := by
  apply eq_of_sat
  refine satFn rfl ?_
  show SatS (Bis_tuple [.val v, .val (.int m)] g) _ _
  refine SatS.ret ?_
  have hd := h.1
  cases v with
  | tup xs =>
    simp only [ev_var, ev_any, ev_c, ev_bin, ev_binF, ev_chain, ev_un, ev_cons, ev_nil, ev_tup, ev_disp, ev_lst, ev_glo, ev_callB, ev_callF, ev_call, ev_if, ev_sl, ev_oN, ev_oS, ev_rev, ev_isa, ev_tOf, ev_tAnd, ev_tOr, ev_tNot, ev_andV, ev_orV, ev_notV, ev_upper, ev_yes, ev_comp, wipeE, notOwn, List.all_cons, List.all_nil, ev_range1, ev_range2, ev_isq, ev_zip2, ev_zip3, ev_enum, optR_some, bind_ok, Sat_ok, Sat_bind, List.getElem?_cons_zero, List.getElem?_cons_succ, List.set_cons_zero, List.set_cons_succ, List.length_cons, List.length_nil, Bool.true_and, Bool.and_true, Bool.and_self, Bool.or_true, Bool.true_or, Bool.false_or, Bool.or_false, Bool.not_true, Bool.not_false, Bool.false_and, Bool.and_false, if_true, if_false, Bool.false_eq_true, reduceIte, reduceCtorEq, opAdd, opSub, opMul, opDiv, opMod, opNeg, opI, opLt, opLe, opGt, opGe, opEq, opNe, opEq_int, opIs, opIsnot, opIsB, isNonP, opIx, opLen, opTuple, opList, opInt, opAbs, opStr, opSum, opMax, opMin, opMM, opAny, opAll, opAA, asSeq, asLst, top, frSeq, kdP, isa, id_eq, Option.map_some, Option.bind_some]
    refine ⟨?_, by first | trivial | rfl⟩
    unfold tupLen
    rw [show ((xs.length : Int) == (m : Int)) = (xs.length == m) by rw [Bool.eq_iff_iff, beq_iff_eq, beq_iff_eq]; omega]
  | ref _ => cases hd
  | bor _ => cases hd
  | ext _ => cases hd
  | scr _ => cases hd
  | _ =>
    simp only [ev_var, ev_any, ev_c, ev_bin, ev_binF, ev_chain, ev_un, ev_cons, ev_nil, ev_tup, ev_disp, ev_lst, ev_glo, ev_callB, ev_callF, ev_call, ev_if, ev_sl, ev_oN, ev_oS, ev_rev, ev_isa, ev_tOf, ev_tAnd, ev_tOr, ev_tNot, ev_andV, ev_orV, ev_notV, ev_upper, ev_yes, ev_comp, wipeE, notOwn, List.all_cons, List.all_nil, ev_range1, ev_range2, ev_isq, ev_zip2, ev_zip3, ev_enum, optR_some, bind_ok, Sat_ok, Sat_bind, List.getElem?_cons_zero, List.getElem?_cons_succ, List.set_cons_zero, List.set_cons_succ, List.length_cons, List.length_nil, Bool.true_and, Bool.and_true, Bool.and_self, Bool.or_true, Bool.true_or, Bool.false_or, Bool.or_false, Bool.not_true, Bool.not_false, Bool.false_and, Bool.and_false, if_true, if_false, Bool.false_eq_true, reduceIte, reduceCtorEq, opAdd, opSub, opMul, opDiv, opMod, opNeg, opI, opLt, opLe, opGt, opGe, opEq, opNe, opEq_int, opIs, opIsnot, opIsB, isNonP, opIx, opLen, opTuple, opList, opInt, opAbs, opStr, opSum, opMax, opMin, opMM, opAny, opAll, opAA, asSeq, asLst, top, frSeq, kdP, isa, id_eq, Option.map_some, Option.bind_some]
    exact ⟨by first | trivial | rfl, by first | trivial | rfl⟩
theorem is_step_eq {n : Nat} {ds : List (List Int × List Int)} (N : NetOk n ds) {v : PV} (h : dat2 v) (g : G) : Fis_step [netP n ds, v] g = .ok (.bl (tupLen v ds.length && intsB v && posV v)) g := by
  apply eq_of_sat
  refine satFn rfl ?_
  show SatS (Bis_step [.val (netP n ds), .val v, .un] g) _ _
  refine SatS.seq (SatS.ite ?_)
  simp only [ev_var, ev_any, ev_c, ev_bin, ev_binF, ev_chain, ev_un, ev_cons, ev_nil, ev_tup, ev_disp, ev_lst, ev_glo, ev_callB, ev_callF, ev_call, ev_if, ev_sl, ev_oN, ev_oS, ev_rev, ev_isa, ev_tOf, ev_tAnd, ev_tOr, ev_tNot, ev_andV, ev_orV, ev_notV, ev_upper, ev_yes, ev_comp, wipeE, notOwn, List.all_cons, List.all_nil, ev_range1, ev_range2, ev_isq, ev_zip2, ev_zip3, ev_enum, optR_some, bind_ok, Sat_ok, Sat_bind, List.getElem?_cons_zero, List.getElem?_cons_succ, List.set_cons_zero, List.set_cons_succ, List.length_cons, List.length_nil, Bool.true_and, Bool.and_true, Bool.and_self, Bool.or_true, Bool.true_or, Bool.false_or, Bool.or_false, Bool.not_true, Bool.not_false, Bool.false_and, Bool.and_false, if_true, if_false, Bool.false_eq_true, reduceIte, reduceCtorEq, opAdd, opSub, opMul, opDiv, opMod, opNeg, opI, opLt, opLe, opGt, opGe, opEq, opNe, opEq_int, opIs, opIsnot, opIsB, isNonP, opIx, opLen, opTuple, opList, opInt, opAbs, opStr, opSum, opMax, opMin, opMM, opAny, opAll, opAA, asSeq, asLst, top, frSeq, kdP, isa, id_eq, Option.map_some, Option.bind_some, List.length_map, show atI [PV.int n, PV.tup (ds.map dp)] 1 = some (PV.tup (ds.map dp)) from rfl]
  rw [is_tuple_eq h]
  simp only [ev_var, ev_any, ev_c, ev_bin, ev_binF, ev_chain, ev_un, ev_cons, ev_nil, ev_tup, ev_disp, ev_lst, ev_glo, ev_callB, ev_callF, ev_call, ev_if, ev_sl, ev_oN, ev_oS, ev_rev, ev_isa, ev_tOf, ev_tAnd, ev_tOr, ev_tNot, ev_andV, ev_orV, ev_notV, ev_upper, ev_yes, ev_comp, wipeE, notOwn, List.all_cons, List.all_nil, ev_range1, ev_range2, ev_isq, ev_zip2, ev_zip3, ev_enum, optR_some, bind_ok, Sat_ok, Sat_bind, List.getElem?_cons_zero, List.getElem?_cons_succ, List.set_cons_zero, List.set_cons_succ, List.length_cons, List.length_nil, Bool.true_and, Bool.and_true, Bool.and_self, Bool.or_true, Bool.true_or, Bool.false_or, Bool.or_false, Bool.not_true, Bool.not_false, Bool.false_and, Bool.and_false, if_true, if_false, Bool.false_eq_true, reduceIte, reduceCtorEq]
  cases hc : tupLen v ds.length with
  | false =>
    simp only [ev_var, ev_any, ev_c, ev_bin, ev_binF, ev_chain, ev_un, ev_cons, ev_nil, ev_tup, ev_disp, ev_lst, ev_glo, ev_callB, ev_callF, ev_call, ev_if, ev_sl, ev_oN, ev_oS, ev_rev, ev_isa, ev_tOf, ev_tAnd, ev_tOr, ev_tNot, ev_andV, ev_orV, ev_notV, ev_upper, ev_yes, ev_comp, wipeE, notOwn, List.all_cons, List.all_nil, ev_range1, ev_range2, ev_isq, ev_zip2, ev_zip3, ev_enum, optR_some, bind_ok, Sat_ok, Sat_bind, List.getElem?_cons_zero, List.getElem?_cons_succ, List.set_cons_zero, List.set_cons_succ, List.length_cons, List.length_nil, Bool.true_and, Bool.and_true, Bool.and_self, Bool.or_true, Bool.true_or, Bool.false_or, Bool.or_false, Bool.not_true, Bool.not_false, Bool.false_and, Bool.and_false, if_true, if_false, Bool.false_eq_true, reduceIte, reduceCtorEq]
    refine SatS.ret ?_
    simp only [ev_var, ev_any, ev_c, ev_bin, ev_binF, ev_chain, ev_un, ev_cons, ev_nil, ev_tup, ev_disp, ev_lst, ev_glo, ev_callB, ev_callF, ev_call, ev_if, ev_sl, ev_oN, ev_oS, ev_rev, ev_isa, ev_tOf, ev_tAnd, ev_tOr, ev_tNot, ev_andV, ev_orV, ev_notV, ev_upper, ev_yes, ev_comp, wipeE, notOwn, List.all_cons, List.all_nil, ev_range1, ev_range2, ev_isq, ev_zip2, ev_zip3, ev_enum, optR_some, bind_ok, Sat_ok, Sat_bind, List.getElem?_cons_zero, List.getElem?_cons_succ, List.set_cons_zero, List.set_cons_succ, List.length_cons, List.length_nil, Bool.true_and, Bool.and_true, Bool.and_self, Bool.or_true, Bool.true_or, Bool.false_or, Bool.or_false, Bool.not_true, Bool.not_false, Bool.false_and, Bool.and_false, if_true, if_false, Bool.false_eq_true, reduceIte, reduceCtorEq]
    exact ⟨by first | trivial | rfl, by first | trivial | rfl⟩
  | true =>
    cases v with
    | tup xs =>
      obtain ⟨hl, hx⟩ := h.2 xs rfl
      simp only [ev_var, ev_any, ev_c, ev_bin, ev_binF, ev_chain, ev_un, ev_cons, ev_nil, ev_tup, ev_disp, ev_lst, ev_glo, ev_callB, ev_callF, ev_call, ev_if, ev_sl, ev_oN, ev_oS, ev_rev, ev_isa, ev_tOf, ev_tAnd, ev_tOr, ev_tNot, ev_andV, ev_orV, ev_notV, ev_upper, ev_yes, ev_comp, wipeE, notOwn, List.all_cons, List.all_nil, ev_range1, ev_range2, ev_isq, ev_zip2, ev_zip3, ev_enum, optR_some, bind_ok, Sat_ok, Sat_bind, List.getElem?_cons_zero, List.getElem?_cons_succ, List.set_cons_zero, List.set_cons_succ, List.length_cons, List.length_nil, Bool.true_and, Bool.and_true, Bool.and_self, Bool.or_true, Bool.true_or, Bool.false_or, Bool.or_false, Bool.not_true, Bool.not_false, Bool.false_and, Bool.and_false, if_true, if_false, Bool.false_eq_true, reduceIte, reduceCtorEq, opAdd, opSub, opMul, opDiv, opMod, opNeg, opI, opLt, opLe, opGt, opGe, opEq, opNe, opEq_int, opIs, opIsnot, opIsB, isNonP, opIx, opLen, opTuple, opList, opInt, opAbs, opStr, opSum, opMax, opMin, opMM, opAny, opAll, opAA, asSeq, asLst, top, frSeq, kdP, isa, id_eq, Option.map_some, Option.bind_some]
      have c1 : compRun (.nm 2) tYes' (eCall Fis_number (aCons (eVar 2) (aCons (eC (.int 0)) (aCons (eC (.int 9)) aNil)))) [.val (netP n ds), .val (.tup xs), .un] xs g = .ok (xs.map fun x => .bl (numOk x)) g := by
        have := comp_all (p := .nm 2) (te := eCall Fis_number (aCons (eVar 2) (aCons (eC (.int 0)) (aCons (eC (.int 9)) aNil)))) (e := [.val (netP n ds), .val (.tup xs), .un]) (g := g) (fun x : PV => x) (fun x => PV.bl (numOk x)) (l := xs) (fun x hm => ⟨_, rfl, by
          simp only [ev_var, ev_any, ev_c, ev_bin, ev_binF, ev_chain, ev_un, ev_cons, ev_nil, ev_tup, ev_disp, ev_lst, ev_glo, ev_callB, ev_callF, ev_call, ev_if, ev_sl, ev_oN, ev_oS, ev_rev, ev_isa, ev_tOf, ev_tAnd, ev_tOr, ev_tNot, ev_andV, ev_orV, ev_notV, ev_upper, ev_yes, ev_comp, wipeE, notOwn, List.all_cons, List.all_nil, ev_range1, ev_range2, ev_isq, ev_zip2, ev_zip3, ev_enum, optR_some, bind_ok, Sat_ok, Sat_bind, List.getElem?_cons_zero, List.getElem?_cons_succ, List.set_cons_zero, List.set_cons_succ, List.length_cons, List.length_nil, Bool.true_and, Bool.and_true, Bool.and_self, Bool.or_true, Bool.true_or, Bool.false_or, Bool.or_false, Bool.not_true, Bool.not_false, Bool.false_and, Bool.and_false, if_true, if_false, Bool.false_eq_true, reduceIte, reduceCtorEq]
          rw [is_number_eq (hx x hm)]⟩)
        rw [List.map_id'] at this
        exact this
      rw [c1]
      have e1 : ((xs.map numOk).all id) = intsB (.tup xs) := by
        show _ = xs.all numOk
        rw [List.all_map]; rfl
      simp only [ev_var, ev_any, ev_c, ev_bin, ev_binF, ev_chain, ev_un, ev_cons, ev_nil, ev_tup, ev_disp, ev_lst, ev_glo, ev_callB, ev_callF, ev_call, ev_if, ev_sl, ev_oN, ev_oS, ev_rev, ev_isa, ev_tOf, ev_tAnd, ev_tOr, ev_tNot, ev_andV, ev_orV, ev_notV, ev_upper, ev_yes, ev_comp, wipeE, notOwn, List.all_cons, List.all_nil, ev_range1, ev_range2, ev_isq, ev_zip2, ev_zip3, ev_enum, optR_some, bind_ok, Sat_ok, Sat_bind, List.getElem?_cons_zero, List.getElem?_cons_succ, List.set_cons_zero, List.set_cons_succ, List.length_cons, List.length_nil, Bool.true_and, Bool.and_true, Bool.and_self, Bool.or_true, Bool.true_or, Bool.false_or, Bool.or_false, Bool.not_true, Bool.not_false, Bool.false_and, Bool.and_false, if_true, if_false, Bool.false_eq_true, reduceIte, reduceCtorEq, opAdd, opSub, opMul, opDiv, opMod, opNeg, opI, opLt, opLe, opGt, opGe, opEq, opNe, opEq_int, opIs, opIsnot, opIsB, isNonP, opIx, opLen, opTuple, opList, opInt, opAbs, opStr, opSum, opMax, opMin, opMM, opAny, opAll, opAA, asSeq, asLst, top, frSeq, kdP, isa, id_eq, Option.map_some, Option.bind_some, bls_map, e1]
      cases hi : intsB (.tup xs) with
      | false =>
        refine SatS.ret ?_
        simp only [ev_var, ev_any, ev_c, ev_bin, ev_binF, ev_chain, ev_un, ev_cons, ev_nil, ev_tup, ev_disp, ev_lst, ev_glo, ev_callB, ev_callF, ev_call, ev_if, ev_sl, ev_oN, ev_oS, ev_rev, ev_isa, ev_tOf, ev_tAnd, ev_tOr, ev_tNot, ev_andV, ev_orV, ev_notV, ev_upper, ev_yes, ev_comp, wipeE, notOwn, List.all_cons, List.all_nil, ev_range1, ev_range2, ev_isq, ev_zip2, ev_zip3, ev_enum, optR_some, bind_ok, Sat_ok, Sat_bind, List.getElem?_cons_zero, List.getElem?_cons_succ, List.set_cons_zero, List.set_cons_succ, List.length_cons, List.length_nil, Bool.true_and, Bool.and_true, Bool.and_self, Bool.or_true, Bool.true_or, Bool.false_or, Bool.or_false, Bool.not_true, Bool.not_false, Bool.false_and, Bool.and_false, if_true, if_false, Bool.false_eq_true, reduceIte, reduceCtorEq]
        exact ⟨by first | trivial | rfl, by first | trivial | rfl⟩
      | true =>
        refine SatS.nil (SatS.ret ?_)
        simp only [ev_var, ev_any, ev_c, ev_bin, ev_binF, ev_chain, ev_un, ev_cons, ev_nil, ev_tup, ev_disp, ev_lst, ev_glo, ev_callB, ev_callF, ev_call, ev_if, ev_sl, ev_oN, ev_oS, ev_rev, ev_isa, ev_tOf, ev_tAnd, ev_tOr, ev_tNot, ev_andV, ev_orV, ev_notV, ev_upper, ev_yes, ev_comp, wipeE, notOwn, List.all_cons, List.all_nil, ev_range1, ev_range2, ev_isq, ev_zip2, ev_zip3, ev_enum, optR_some, bind_ok, Sat_ok, Sat_bind, List.getElem?_cons_zero, List.getElem?_cons_succ, List.set_cons_zero, List.set_cons_succ, List.length_cons, List.length_nil, Bool.true_and, Bool.and_true, Bool.and_self, Bool.or_true, Bool.true_or, Bool.false_or, Bool.or_false, Bool.not_true, Bool.not_false, Bool.false_and, Bool.and_false, if_true, if_false, Bool.false_eq_true, reduceIte, reduceCtorEq, opAdd, opSub, opMul, opDiv, opMod, opNeg, opI, opLt, opLe, opGt, opGe, opEq, opNe, opEq_int, opIs, opIsnot, opIsB, isNonP, opIx, opLen, opTuple, opList, opInt, opAbs, opStr, opSum, opMax, opMin, opMM, opAny, opAll, opAA, asSeq, asLst, top, frSeq, kdP, isa, id_eq, Option.map_some, Option.bind_some]
        have hall : ∀ x ∈ xs, numOk x = true := List.all_eq_true.mp hi
        have c2 : compRun (.nm 2) tYes' (eBin opGt (eVar 2) (eC (.int 0))) [.val (netP n ds), .val (.tup xs), .un] xs g = .ok (xs.map fun x => .bl (match x with
            | .int i => decide (0 < i)
            | _ => false)) g := by
          have := comp_all (p := .nm 2) (te := eBin opGt (eVar 2) (eC (.int 0))) (e := [.val (netP n ds), .val (.tup xs), .un]) (g := g) (fun x : PV => x) (fun x => PV.bl (match x with
            | .int i => decide (0 < i)
            | _ => false)) (l := xs) (fun x hm => ⟨_, rfl, by
              have := hall x hm
              cases x with
              | int i => simp only [ev_var, ev_any, ev_c, ev_bin, ev_binF, ev_chain, ev_un, ev_cons, ev_nil, ev_tup, ev_disp, ev_lst, ev_glo, ev_callB, ev_callF, ev_call, ev_if, ev_sl, ev_oN, ev_oS, ev_rev, ev_isa, ev_tOf, ev_tAnd, ev_tOr, ev_tNot, ev_andV, ev_orV, ev_notV, ev_upper, ev_yes, ev_comp, wipeE, notOwn, List.all_cons, List.all_nil, ev_range1, ev_range2, ev_isq, ev_zip2, ev_zip3, ev_enum, optR_some, bind_ok, Sat_ok, Sat_bind, List.getElem?_cons_zero, List.getElem?_cons_succ, List.set_cons_zero, List.set_cons_succ, List.length_cons, List.length_nil, Bool.true_and, Bool.and_true, Bool.and_self, Bool.or_true, Bool.true_or, Bool.false_or, Bool.or_false, Bool.not_true, Bool.not_false, Bool.false_and, Bool.and_false, if_true, if_false, Bool.false_eq_true, reduceIte, reduceCtorEq, opAdd, opSub, opMul, opDiv, opMod, opNeg, opI, opLt, opLe, opGt, opGe, opEq, opNe, opEq_int, opIs, opIsnot, opIsB, isNonP, opIx, opLen, opTuple, opList, opInt, opAbs, opStr, opSum, opMax, opMin, opMM, opAny, opAll, opAA, asSeq, asLst, top, frSeq, kdP, isa, id_eq, Option.map_some, Option.bind_some]
              | _ => cases this⟩)
          rw [List.map_id'] at this
          exact this
        have c2' : compRun (.nm 2) tYes' (eBin (opI fun i j => decide (j < i)) (eVar 2) (eC (.int 0))) [.val (netP n ds), .val (.tup xs), .un] xs g = .ok (xs.map fun x => .bl (match x with
            | .int i => decide (0 < i)
            | _ => false)) g := c2
        rw [c2']
        simp only [ev_var, ev_any, ev_c, ev_bin, ev_binF, ev_chain, ev_un, ev_cons, ev_nil, ev_tup, ev_disp, ev_lst, ev_glo, ev_callB, ev_callF, ev_call, ev_if, ev_sl, ev_oN, ev_oS, ev_rev, ev_isa, ev_tOf, ev_tAnd, ev_tOr, ev_tNot, ev_andV, ev_orV, ev_notV, ev_upper, ev_yes, ev_comp, wipeE, notOwn, List.all_cons, List.all_nil, ev_range1, ev_range2, ev_isq, ev_zip2, ev_zip3, ev_enum, optR_some, bind_ok, Sat_ok, Sat_bind, List.getElem?_cons_zero, List.getElem?_cons_succ, List.set_cons_zero, List.set_cons_succ, List.length_cons, List.length_nil, Bool.true_and, Bool.and_true, Bool.and_self, Bool.or_true, Bool.true_or, Bool.false_or, Bool.or_false, Bool.not_true, Bool.not_false, Bool.false_and, Bool.and_false, if_true, if_false, Bool.false_eq_true, reduceIte, reduceCtorEq, opAdd, opSub, opMul, opDiv, opMod, opNeg, opI, opLt, opLe, opGt, opGe, opEq, opNe, opEq_int, opIs, opIsnot, opIsB, isNonP, opIx, opLen, opTuple, opList, opInt, opAbs, opStr, opSum, opMax, opMin, opMM, opAny, opAll, opAA, asSeq, asLst, top, frSeq, kdP, isa, id_eq, Option.map_some, Option.bind_some, bls_map]
        refine ⟨?_, by first | trivial | rfl⟩
        unfold posV
        rw [List.any_map]; rfl
    | _ => cases hc
theorem sum_posV {xs : List PV} (h : intsB (.tup xs) = true) : ∃ r : List Int, xs = r.map .int ∧ (∀ x ∈ r, 0 ≤ x ∧ x ≤ (9 : Nat)) ∧ posV (.tup xs) = pos r := by
  replace h : xs.all numOk = true := h
  revert h
  induction xs with
  | nil => exact fun _ => ⟨[], rfl, by simp, rfl⟩
  | cons x xs ih =>
    intro h
    rw [List.all_cons, Bool.and_eq_true] at h
    obtain ⟨r, h1, h2, h3⟩ := ih h.2
    cases x with
    | int i =>
      have h0 := h.1
      unfold numOk at h0
      rw [Bool.and_eq_true, decide_eq_true_eq, decide_eq_true_eq] at h0
      refine ⟨i :: r, by rw [h1]; rfl, ?_, ?_⟩
      · intro y hy
        rcases List.mem_cons.mp hy with rfl | hy
        · exact ⟨h0.1, h0.2⟩
        · exact h2 y hy
      · show (decide (0 < i) || _) = (decide (0 < i) || _)
        exact congrArg _ h3
    | _ => cases h.1

/-! ## bent values -/
def fl (b c : Nat) : PV → Prop
  | .non => True
  | .bl _ => True
  | .int i => -(b : Int) ≤ i ∧ i ≤ b
  | .str s => s.length ≤ c
  | _ => False
def Vd (b c : Nat) : Nat → PV → Prop
  | 0, v => fl b c v
  | d + 1, v => fl b c v ∨ ∃ xs, (v = .tup xs ∨ v = .lst xs) ∧ xs.length ≤ c ∧ ∀ x ∈ xs, Vd b c d x
theorem fl_mono {b c b' c' : Nat} (hb : b ≤ b') (hc : c ≤ c') {v : PV} (h : fl b c v) : fl b' c' v := by
  cases v with
  | int i => exact ⟨by have := h.1; omega, by have := h.2; omega⟩
  | str s => exact Nat.le_trans h hc
  | non => trivial
  | bl _ => trivial
  | _ => exact h
theorem fl_vd {b c : Nat} {v : PV} (h : fl b c v) : ∀ d, Vd b c d v
  | 0 => h
  | d + 1 => .inl h
theorem vd_mono {b c b' c' : Nat} (hb : b ≤ b') (hc : c ≤ c') : ∀ {d d' : Nat} {v : PV}, d ≤ d' → Vd b c d v → Vd b' c' d' v
  | 0, d', v, _, h => fl_vd (fl_mono hb hc h) d'
  | d + 1, 0, v, hd, _ => absurd hd (by omega)
  | d + 1, d' + 1, v, hd, h => by
    rcases h with h | ⟨xs, h1, h2, h3⟩
    · exact .inl (fl_mono hb hc h)
    · exact .inr ⟨xs, h1, Nat.le_trans h2 hc, fun x hx => vd_mono hb hc (by omega) (h3 x hx)⟩
theorem vd_tup {b c d : Nat} {xs : List PV} (hl : xs.length ≤ c) (h : ∀ x ∈ xs, Vd b c d x) : Vd b c (d + 1) (.tup xs) := .inr ⟨xs, .inl rfl, hl, h⟩
theorem vd_dat {b c d : Nat} {v : PV} (h : Vd b c d v) : dat v = true := by
  have key : ∀ {v : PV}, fl b c v → dat v = true := fun {v} h => by
    cases v <;> first | rfl | exact h.elim
  cases d with
  | zero => exact key h
  | succ d =>
    rcases h with h | ⟨xs, rfl | rfl, _⟩
    · exact key h
    · rfl
    · rfl
theorem vd_dat2 {b c d : Nat} {v : PV} (hc : c ≤ 1000) (h : Vd b c d v) : dat2 v := by
  refine ⟨vd_dat h, fun xs e => ?_⟩
  subst e
  cases d with
  | zero => exact h.elim
  | succ d =>
    rcases h with h | ⟨ys, h1 | h1, h2, h3⟩
    · exact h.elim
    · cases h1; exact ⟨by omega, fun x hx => vd_dat (h3 x hx)⟩
    · cases h1
theorem cutP_mem {xs : List PV} {lo hi : Option Int} {x : PV} (h : x ∈ cutP xs lo hi) : x ∈ xs := by
  unfold cutP at h
  exact List.mem_of_mem_drop (List.mem_of_mem_take h)
theorem cutP_len {α : Type} (xs : List α) (lo hi : Option Int) : (cutP xs lo hi).length ≤ xs.length := by
  unfold cutP
  rw [List.length_take, List.length_drop]; omega
theorem opSl_tup {e : Q.Env} {g : G} {xs : List PV} {lo hi : Option Int} : opSl e g (.tup xs) lo hi = some (.tup (cutP xs lo hi)) := Eq.trans rfl rfl
theorem add_tup {e : Q.Env} {g : G} {xs ys : List PV} (h : xs.length + ys.length ≤ 1000000) : opAdd e g (.tup xs) (.tup ys) = some (.tup (xs ++ ys)) := by
  show (if fits (xs.length + ys.length) then some (PV.tup (xs ++ ys)) else none) = _
  rw [fits1000 h]; rfl
theorem add_str {e : Q.Env} {g : G} {a b : Str} (h : a.length + b.length ≤ 1000000) : opAdd e g (.str a) (.str b) = some (.str (a ++ b)) := by
  show (if fits (a.length + b.length) then some (PV.str (a ++ b)) else none) = _
  rw [fits1000 h]; rfl
theorem ix_lst {e : Q.Env} {g : G} {l : List PV} {i : Int} : opIx e g (.lst l) (.int i) = atI l i := Eq.trans rfl rfl
theorem ix_tup {e : Q.Env} {g : G} {l : List PV} {i : Int} : opIx e g (.tup l) (.int i) = atI l i := Eq.trans rfl rfl
theorem atI_mem {l : List PV} {i : Int} (h0 : 0 ≤ i) (h1 : i < l.length) : ∃ w, atI l i = some w ∧ w ∈ l := by
  have hi : i.toNat < l.length := by omega
  exact ⟨l[i.toNat], by rw [atI_nn h0 h1, List.getElem?_eq_getElem hi], List.getElem_mem hi⟩
theorem str_int_len {i : Int} (h : -40 ≤ i) (h' : i ≤ 40) : (toString i : Str).length ≤ 10 := by
  have q : ∀ k : Nat, k < 81 → (Str.ofString (toString ((k : Int) - 40))).length ≤ 10 := by decide +kernel
  have := q (i + 40).toNat (by omega)
  rw [show (((i + 40).toNat : Nat) : Int) - 40 = i by omega] at this
  exact this
theorem vd_zero {b c d : Nat} : Vd b c d (.int 0) := fl_vd (b := b) (c := c) (v := .int 0) ⟨by omega, by omega⟩ d
/-- a value out of a list written -/
theorem sat_pick {p : PV} {g : G} {B : Nat} {l : List PV} {m : Int} {W : PV → Prop} (hm : m = l.length) (h0 : 0 < l.length) (h : Pool p g B) (hB : B ≤ 100000000) (hW : ∀ w ∈ l, W w) : Sat (F_law_draw [p, .int m] g) fun v g' => ∃ i w, v = .int i ∧ atI l i = some w ∧ W w ∧ Pool p g' (B + 1) := by
  refine (sat_draw h (by omega) (by omega)).imp ?_
  rintro _ g' ⟨i, rfl, i0, i1, hp⟩
  obtain ⟨w, hw, hm'⟩ := atI_mem (l := l) i0 (by omega)
  exact ⟨i, w, rfl, hw, hW w hm', hp⟩
theorem sat_bent_str {b c d m : Nat} (hb : b ≤ 24) (hc : c ≤ 300) {s : Str} (hs : s.length ≤ c) {p : PV} {g : G} {B : Nat} (h : Pool p g B) (hB : B ≤ 10000000) : Sat (F_law_bent (m + 1) [p, .str s] g) fun w g' => Vd (b + 16) (3 * c + 10) (d + 1) w ∧ Pool p g' (B + 1) := by
  refine satFn rfl ?_
  show SatS (B_law_bent (F_law_bent m) [.val p, .val (.str s), .un, .un, .un, .un, .un] g) _ _
  refine SatS.seq (SatS.ite ?_)
  simp only [ev_var, ev_any, ev_c, ev_bin, ev_binF, ev_chain, ev_un, ev_cons, ev_nil, ev_tup, ev_disp, ev_lst, ev_glo, ev_callB, ev_callF, ev_call, ev_if, ev_sl, ev_oN, ev_oS, ev_rev, ev_isa, ev_tOf, ev_tAnd, ev_tOr, ev_tNot, ev_andV, ev_orV, ev_notV, ev_upper, ev_yes, ev_comp, wipeE, notOwn, List.all_cons, List.all_nil, ev_range1, ev_range2, ev_isq, ev_zip2, ev_zip3, ev_enum, optR_some, bind_ok, Sat_ok, Sat_bind, List.getElem?_cons_zero, List.getElem?_cons_succ, List.set_cons_zero, List.set_cons_succ, List.length_cons, List.length_nil, Bool.true_and, Bool.and_true, Bool.and_self, Bool.or_true, Bool.true_or, Bool.false_or, Bool.or_false, Bool.not_true, Bool.not_false, Bool.false_and, Bool.and_false, if_true, if_false, Bool.false_eq_true, reduceIte, reduceCtorEq, opAdd, opSub, opMul, opDiv, opMod, opNeg, opI, opLt, opLe, opGt, opGe, opEq, opNe, opEq_int, opIs, opIsnot, opIsB, isNonP, opIx, opLen, opTuple, opList, opInt, opAbs, opStr, opSum, opMax, opMin, opMM, opAny, opAll, opAA, asSeq, asLst, top, frSeq, kdP, isa, id_eq, Option.map_some, Option.bind_some]
  refine SatS.nil (SatS.seq (SatS.ite ?_))
  simp only [ev_var, ev_any, ev_c, ev_bin, ev_binF, ev_chain, ev_un, ev_cons, ev_nil, ev_tup, ev_disp, ev_lst, ev_glo, ev_callB, ev_callF, ev_call, ev_if, ev_sl, ev_oN, ev_oS, ev_rev, ev_isa, ev_tOf, ev_tAnd, ev_tOr, ev_tNot, ev_andV, ev_orV, ev_notV, ev_upper, ev_yes, ev_comp, wipeE, notOwn, List.all_cons, List.all_nil, ev_range1, ev_range2, ev_isq, ev_zip2, ev_zip3, ev_enum, optR_some, bind_ok, Sat_ok, Sat_bind, List.getElem?_cons_zero, List.getElem?_cons_succ, List.set_cons_zero, List.set_cons_succ, List.length_cons, List.length_nil, Bool.true_and, Bool.and_true, Bool.and_self, Bool.or_true, Bool.true_or, Bool.false_or, Bool.or_false, Bool.not_true, Bool.not_false, Bool.false_and, Bool.and_false, if_true, if_false, Bool.false_eq_true, reduceIte, reduceCtorEq, opAdd, opSub, opMul, opDiv, opMod, opNeg, opI, opLt, opLe, opGt, opGe, opEq, opNe, opEq_int, opIs, opIsnot, opIsB, isNonP, opIx, opLen, opTuple, opList, opInt, opAbs, opStr, opSum, opMax, opMin, opMM, opAny, opAll, opAA, asSeq, asLst, top, frSeq, kdP, isa, id_eq, Option.map_some, Option.bind_some]
  refine SatS.ret ?_
  have lx : (("x" : Str)).length = 1 := by decide
  have u1 : Nat.ble s.length 5592405 = true := Nat.ble_eq.mpr (by omega)
  simp only [ev_var, ev_any, ev_c, ev_bin, ev_binF, ev_chain, ev_un, ev_cons, ev_nil, ev_tup, ev_disp, ev_lst, ev_glo, ev_callB, ev_callF, ev_call, ev_if, ev_sl, ev_oN, ev_oS, ev_rev, ev_isa, ev_tOf, ev_tAnd, ev_tOr, ev_tNot, ev_andV, ev_orV, ev_notV, ev_upper, ev_yes, ev_comp, wipeE, notOwn, List.all_cons, List.all_nil, ev_range1, ev_range2, ev_isq, ev_zip2, ev_zip3, ev_enum, optR_some, bind_ok, Sat_ok, Sat_bind, List.getElem?_cons_zero, List.getElem?_cons_succ, List.set_cons_zero, List.set_cons_succ, List.length_cons, List.length_nil, Bool.true_and, Bool.and_true, Bool.and_self, Bool.or_true, Bool.true_or, Bool.false_or, Bool.or_false, Bool.not_true, Bool.not_false, Bool.false_and, Bool.and_false, if_true, if_false, Bool.false_eq_true, reduceIte, reduceCtorEq, add_str (show s.length + ("x" : Str).length ≤ 1000000 by omega), opUpper, u1, fits1000 (show 5 ≤ 1000000 by omega)]
  refine (sat_pick (l := [.str (s ++ "x"), .str "", .str (Txt.upper s), .non, .int 0]) (W := fun w => Vd (b + 16) (3 * c + 10) (d + 1) w) rfl (by simp) h (by omega) ?_).imp ?_
  · intro w hw
    simp only [List.mem_cons, List.not_mem_nil, or_false] at hw
    rcases hw with rfl | rfl | rfl | rfl | rfl
    · refine fl_vd (v := .str _) ?_ _
      show (s ++ "x").length ≤ _
      rw [strLen_append]; omega
    · refine fl_vd (v := .str _) ?_ _
      show (("" : Str)).length ≤ _
      have : (("" : Str)).length = 0 := by decide
      omega
    · refine fl_vd (v := .str _) ?_ _
      show (Txt.upper s).length ≤ _
      have := PyProof.Rows.len_upper s
      omega
    · exact fl_vd (v := .non) trivial _
    · exact vd_zero
  · rintro _ g' ⟨i, w, rfl, hw, hW, hp⟩
    rw [ix_lst, hw]
    simp only [ev_var, ev_any, ev_c, ev_bin, ev_binF, ev_chain, ev_un, ev_cons, ev_nil, ev_tup, ev_disp, ev_lst, ev_glo, ev_callB, ev_callF, ev_call, ev_if, ev_sl, ev_oN, ev_oS, ev_rev, ev_isa, ev_tOf, ev_tAnd, ev_tOr, ev_tNot, ev_andV, ev_orV, ev_notV, ev_upper, ev_yes, ev_comp, wipeE, notOwn, List.all_cons, List.all_nil, ev_range1, ev_range2, ev_isq, ev_zip2, ev_zip3, ev_enum, optR_some, bind_ok, Sat_ok, Sat_bind, List.getElem?_cons_zero, List.getElem?_cons_succ, List.set_cons_zero, List.set_cons_succ, List.length_cons, List.length_nil, Bool.true_and, Bool.and_true, Bool.and_self, Bool.or_true, Bool.true_or, Bool.false_or, Bool.or_false, Bool.not_true, Bool.not_false, Bool.false_and, Bool.and_false, if_true, if_false, Bool.false_eq_true, reduceIte, reduceCtorEq]
    exact ⟨hW, hp⟩
theorem sat_bent_int {b c d m : Nat} (hb : b ≤ 24) (hc : c ≤ 300) {i : Int} (hi : -(b : Int) ≤ i ∧ i ≤ b) {p : PV} {g : G} {B : Nat} (h : Pool p g B) (hB : B ≤ 10000000) : Sat (F_law_bent (m + 1) [p, .int i] g) fun w g' => Vd (b + 16) (3 * c + 10) (d + 1) w ∧ Pool p g' (B + 1) := by
  refine satFn rfl ?_
  show SatS (B_law_bent (F_law_bent m) [.val p, .val (.int i), .un, .un, .un, .un, .un] g) _ _
  refine SatS.seq (SatS.ite ?_)
  simp only [ev_var, ev_any, ev_c, ev_bin, ev_binF, ev_chain, ev_un, ev_cons, ev_nil, ev_tup, ev_disp, ev_lst, ev_glo, ev_callB, ev_callF, ev_call, ev_if, ev_sl, ev_oN, ev_oS, ev_rev, ev_isa, ev_tOf, ev_tAnd, ev_tOr, ev_tNot, ev_andV, ev_orV, ev_notV, ev_upper, ev_yes, ev_comp, wipeE, notOwn, List.all_cons, List.all_nil, ev_range1, ev_range2, ev_isq, ev_zip2, ev_zip3, ev_enum, optR_some, bind_ok, Sat_ok, Sat_bind, List.getElem?_cons_zero, List.getElem?_cons_succ, List.set_cons_zero, List.set_cons_succ, List.length_cons, List.length_nil, Bool.true_and, Bool.and_true, Bool.and_self, Bool.or_true, Bool.true_or, Bool.false_or, Bool.or_false, Bool.not_true, Bool.not_false, Bool.false_and, Bool.and_false, if_true, if_false, Bool.false_eq_true, reduceIte, reduceCtorEq, opAdd, opSub, opMul, opDiv, opMod, opNeg, opI, opLt, opLe, opGt, opGe, opEq, opNe, opEq_int, opIs, opIsnot, opIsB, isNonP, opIx, opLen, opTuple, opList, opInt, opAbs, opStr, opSum, opMax, opMin, opMM, opAny, opAll, opAA, asSeq, asLst, top, frSeq, kdP, isa, id_eq, Option.map_some, Option.bind_some]
  refine SatS.nil (SatS.seq (SatS.ite ?_))
  simp only [ev_var, ev_any, ev_c, ev_bin, ev_binF, ev_chain, ev_un, ev_cons, ev_nil, ev_tup, ev_disp, ev_lst, ev_glo, ev_callB, ev_callF, ev_call, ev_if, ev_sl, ev_oN, ev_oS, ev_rev, ev_isa, ev_tOf, ev_tAnd, ev_tOr, ev_tNot, ev_andV, ev_orV, ev_notV, ev_upper, ev_yes, ev_comp, wipeE, notOwn, List.all_cons, List.all_nil, ev_range1, ev_range2, ev_isq, ev_zip2, ev_zip3, ev_enum, optR_some, bind_ok, Sat_ok, Sat_bind, List.getElem?_cons_zero, List.getElem?_cons_succ, List.set_cons_zero, List.set_cons_succ, List.length_cons, List.length_nil, Bool.true_and, Bool.and_true, Bool.and_self, Bool.or_true, Bool.true_or, Bool.false_or, Bool.or_false, Bool.not_true, Bool.not_false, Bool.false_and, Bool.and_false, if_true, if_false, Bool.false_eq_true, reduceIte, reduceCtorEq, opAdd, opSub, opMul, opDiv, opMod, opNeg, opI, opLt, opLe, opGt, opGe, opEq, opNe, opEq_int, opIs, opIsnot, opIsB, isNonP, opIx, opLen, opTuple, opList, opInt, opAbs, opStr, opSum, opMax, opMin, opMM, opAny, opAll, opAA, asSeq, asLst, top, frSeq, kdP, isa, id_eq, Option.map_some, Option.bind_some]
  refine SatS.nil (SatS.seq (SatS.ite ?_))
  simp only [ev_var, ev_any, ev_c, ev_bin, ev_binF, ev_chain, ev_un, ev_cons, ev_nil, ev_tup, ev_disp, ev_lst, ev_glo, ev_callB, ev_callF, ev_call, ev_if, ev_sl, ev_oN, ev_oS, ev_rev, ev_isa, ev_tOf, ev_tAnd, ev_tOr, ev_tNot, ev_andV, ev_orV, ev_notV, ev_upper, ev_yes, ev_comp, wipeE, notOwn, List.all_cons, List.all_nil, ev_range1, ev_range2, ev_isq, ev_zip2, ev_zip3, ev_enum, optR_some, bind_ok, Sat_ok, Sat_bind, List.getElem?_cons_zero, List.getElem?_cons_succ, List.set_cons_zero, List.set_cons_succ, List.length_cons, List.length_nil, Bool.true_and, Bool.and_true, Bool.and_self, Bool.or_true, Bool.true_or, Bool.false_or, Bool.or_false, Bool.not_true, Bool.not_false, Bool.false_and, Bool.and_false, if_true, if_false, Bool.false_eq_true, reduceIte, reduceCtorEq]
  rw [kind_eq rfl]
  simp only [ev_var, ev_any, ev_c, ev_bin, ev_binF, ev_chain, ev_un, ev_cons, ev_nil, ev_tup, ev_disp, ev_lst, ev_glo, ev_callB, ev_callF, ev_call, ev_if, ev_sl, ev_oN, ev_oS, ev_rev, ev_isa, ev_tOf, ev_tAnd, ev_tOr, ev_tNot, ev_andV, ev_orV, ev_notV, ev_upper, ev_yes, ev_comp, wipeE, notOwn, List.all_cons, List.all_nil, ev_range1, ev_range2, ev_isq, ev_zip2, ev_zip3, ev_enum, optR_some, bind_ok, Sat_ok, Sat_bind, List.getElem?_cons_zero, List.getElem?_cons_succ, List.set_cons_zero, List.set_cons_succ, List.length_cons, List.length_nil, Bool.true_and, Bool.and_true, Bool.and_self, Bool.or_true, Bool.true_or, Bool.false_or, Bool.or_false, Bool.not_true, Bool.not_false, Bool.false_and, Bool.and_false, if_true, if_false, Bool.false_eq_true, reduceIte, reduceCtorEq, opAdd, opSub, opMul, opDiv, opMod, opNeg, opI, opLt, opLe, opGt, opGe, opEq, opNe, opEq_int, opIs, opIsnot, opIsB, isNonP, opIx, opLen, opTuple, opList, opInt, opAbs, opStr, opSum, opMax, opMin, opMM, opAny, opAll, opAA, asSeq, asLst, top, frSeq, kdP, isa, id_eq, Option.map_some, Option.bind_some, kindN, beq_self_eq_true]
  refine SatS.ret ?_
  have d1 : decide (i.natAbs < 18446744073709551616) = true := decide_eq_true (by omega)
  simp only [ev_var, ev_any, ev_c, ev_bin, ev_binF, ev_chain, ev_un, ev_cons, ev_nil, ev_tup, ev_disp, ev_lst, ev_glo, ev_callB, ev_callF, ev_call, ev_if, ev_sl, ev_oN, ev_oS, ev_rev, ev_isa, ev_tOf, ev_tAnd, ev_tOr, ev_tNot, ev_andV, ev_orV, ev_notV, ev_upper, ev_yes, ev_comp, wipeE, notOwn, List.all_cons, List.all_nil, ev_range1, ev_range2, ev_isq, ev_zip2, ev_zip3, ev_enum, optR_some, bind_ok, Sat_ok, Sat_bind, List.getElem?_cons_zero, List.getElem?_cons_succ, List.set_cons_zero, List.set_cons_succ, List.length_cons, List.length_nil, Bool.true_and, Bool.and_true, Bool.and_self, Bool.or_true, Bool.true_or, Bool.false_or, Bool.or_false, Bool.not_true, Bool.not_false, Bool.false_and, Bool.and_false, if_true, if_false, Bool.false_eq_true, reduceIte, reduceCtorEq, opAdd, opSub, opMul, opDiv, opMod, opNeg, opI, opLt, opLe, opGt, opGe, opEq, opNe, opEq_int, opIs, opIsnot, opIsB, isNonP, opIx, opLen, opTuple, opList, opInt, opAbs, opStr, opSum, opMax, opMin, opMM, opAny, opAll, opAA, asSeq, asLst, top, frSeq, kdP, isa, id_eq, Option.map_some, Option.bind_some, d1, fits1000 (show 1 ≤ 1000000 by omega), fits1000 (show 10 ≤ 1000000 by omega)]
  refine (sat_pick (l := [.int (i + 1), .int (i - 1), .int (i + 1), .int (i - 1), .int 0, .int (i + 16), .bl true, .non, .str (toString i), .tup [.int i]]) (W := fun w => Vd (b + 16) (3 * c + 10) (d + 1) w) rfl (by simp) h (by omega) ?_).imp ?_
  · intro w hw
    have int : ∀ j : Int, -(b : Int) - 1 ≤ j → j ≤ b + 16 → Vd (b + 16) (3 * c + 10) (d + 1) (.int j) := fun j h1 h2 => fl_vd (v := .int j) ⟨by omega, by omega⟩ _
    obtain ⟨hi1, hi2⟩ := hi
    simp only [List.mem_cons, List.not_mem_nil, or_false] at hw
    rcases hw with rfl | rfl | rfl | rfl | rfl | rfl | rfl | rfl | rfl | rfl
    · exact int _ (by omega) (by omega)
    · exact int _ (by omega) (by omega)
    · exact int _ (by omega) (by omega)
    · exact int _ (by omega) (by omega)
    · exact vd_zero
    · exact int _ (by omega) (by omega)
    · exact fl_vd (v := .bl true) trivial _
    · exact fl_vd (v := .non) trivial _
    · refine fl_vd (v := .str _) ?_ _
      have := str_int_len (i := i) (by omega) (by omega)
      exact Nat.le_trans this (by omega)
    · refine vd_tup (by show 1 ≤ _; omega) fun x hx => ?_
      rw [List.mem_singleton.mp hx]
      exact fl_vd (v := .int i) ⟨by omega, by omega⟩ _
  · rintro _ g' ⟨j, w, rfl, hw, hW, hp⟩
    simp only [ev_var, ev_any, ev_c, ev_bin, ev_binF, ev_chain, ev_un, ev_cons, ev_nil, ev_tup, ev_disp, ev_lst, ev_glo, ev_callB, ev_callF, ev_call, ev_if, ev_sl, ev_oN, ev_oS, ev_rev, ev_isa, ev_tOf, ev_tAnd, ev_tOr, ev_tNot, ev_andV, ev_orV, ev_notV, ev_upper, ev_yes, ev_comp, wipeE, notOwn, List.all_cons, List.all_nil, ev_range1, ev_range2, ev_isq, ev_zip2, ev_zip3, ev_enum, optR_some, bind_ok, Sat_ok, Sat_bind, List.getElem?_cons_zero, List.getElem?_cons_succ, List.set_cons_zero, List.set_cons_succ, List.length_cons, List.length_nil, Bool.true_and, Bool.and_true, Bool.and_self, Bool.or_true, Bool.true_or, Bool.false_or, Bool.or_false, Bool.not_true, Bool.not_false, Bool.false_and, Bool.and_false, if_true, if_false, Bool.false_eq_true, reduceIte, reduceCtorEq, hw]
    exact ⟨hW, hp⟩

theorem add_int {e : Q.Env} {g : G} {i j : Int} : opAdd e g (.int i) (.int j) = some (.int (i + j)) := Eq.trans rfl rfl
theorem sat_bent_tup {b c d m : Nat} (hb : b ≤ 24) (hc : c ≤ 300) {xs : List PV} (hl : xs.length ≤ c) (hx : ∀ x ∈ xs, Vd b c d x) {p : PV} {g : G} {B : Nat} (h : Pool p g B) (hB : B ≤ 9000000)
    (rec : ∀ x ∈ xs, ∀ (g : G) (C : Nat), Pool p g C → C ≤ B + 3 → Sat (F_law_bent m [p, x] g) fun w g' => Vd (b + 16) (3 * c + 10) (d + 1) w ∧ Pool p g' (C + 4 * (d + 1))) :
    Sat (F_law_bent (m + 1) [p, .tup xs] g) fun w g' => Vd (b + 16) (3 * c + 10) (d + 1 + 1) w ∧ Pool p g' (B + 4 * (d + 1 + 1)) := by
  have el : ∀ x ∈ xs, Vd (b + 16) (3 * c + 10) (d + 1) x := fun x hx' => vd_mono (by omega) (by omega) (by omega) (hx x hx')
  have cut : ∀ lo hi, (cutP xs lo hi).length ≤ c := fun lo hi => Nat.le_trans (cutP_len xs lo hi) hl
  have cel : ∀ lo hi, ∀ x ∈ cutP xs lo hi, Vd (b + 16) (3 * c + 10) (d + 1) x := fun lo hi x hx' => el x (cutP_mem hx')
  have app : ∀ {A C : List PV}, (∀ x ∈ A, Vd (b + 16) (3 * c + 10) (d + 1) x) → (∀ x ∈ C, Vd (b + 16) (3 * c + 10) (d + 1) x) → ∀ x ∈ A ++ C, Vd (b + 16) (3 * c + 10) (d + 1) x := fun hA hC x hx' => by
    rcases List.mem_append.mp hx' with h | h
    · exact hA x h
    · exact hC x h
  have one : ∀ {w : PV}, Vd (b + 16) (3 * c + 10) (d + 1) w → ∀ x ∈ [w], Vd (b + 16) (3 * c + 10) (d + 1) x := fun hw x hx' => by rw [List.mem_singleton.mp hx']; exact hw
  refine satFn rfl ?_
  show SatS (B_law_bent (F_law_bent m) [.val p, .val (.tup xs), .un, .un, .un, .un, .un] g) _ _
  refine SatS.seq (SatS.ite ?_)
  simp only [ev_var, ev_any, ev_c, ev_bin, ev_binF, ev_chain, ev_un, ev_cons, ev_nil, ev_tup, ev_disp, ev_lst, ev_glo, ev_callB, ev_callF, ev_call, ev_if, ev_sl, ev_oN, ev_oS, ev_rev, ev_isa, ev_tOf, ev_tAnd, ev_tOr, ev_tNot, ev_andV, ev_orV, ev_notV, ev_upper, ev_yes, ev_comp, wipeE, notOwn, List.all_cons, List.all_nil, ev_range1, ev_range2, ev_isq, ev_zip2, ev_zip3, ev_enum, optR_some, bind_ok, Sat_ok, Sat_bind, List.getElem?_cons_zero, List.getElem?_cons_succ, List.set_cons_zero, List.set_cons_succ, List.length_cons, List.length_nil, Bool.true_and, Bool.and_true, Bool.and_self, Bool.or_true, Bool.true_or, Bool.false_or, Bool.or_false, Bool.not_true, Bool.not_false, Bool.false_and, Bool.and_false, if_true, if_false, Bool.false_eq_true, reduceIte, reduceCtorEq, opAdd, opSub, opMul, opDiv, opMod, opNeg, opI, opLt, opLe, opGt, opGe, opEq, opNe, opEq_int, opIs, opIsnot, opIsB, isNonP, opIx, opLen, opTuple, opList, opInt, opAbs, opStr, opSum, opMax, opMin, opMM, opAny, opAll, opAA, asSeq, asLst, top, frSeq, kdP, isa, id_eq, Option.map_some, Option.bind_some]
  refine SatS.seq (SatS.set ?_)
  simp only [ev_var, ev_any, ev_c, ev_bin, ev_binF, ev_chain, ev_un, ev_cons, ev_nil, ev_tup, ev_disp, ev_lst, ev_glo, ev_callB, ev_callF, ev_call, ev_if, ev_sl, ev_oN, ev_oS, ev_rev, ev_isa, ev_tOf, ev_tAnd, ev_tOr, ev_tNot, ev_andV, ev_orV, ev_notV, ev_upper, ev_yes, ev_comp, wipeE, notOwn, List.all_cons, List.all_nil, ev_range1, ev_range2, ev_isq, ev_zip2, ev_zip3, ev_enum, optR_some, bind_ok, Sat_ok, Sat_bind, List.getElem?_cons_zero, List.getElem?_cons_succ, List.set_cons_zero, List.set_cons_succ, List.length_cons, List.length_nil, Bool.true_and, Bool.and_true, Bool.and_self, Bool.or_true, Bool.true_or, Bool.false_or, Bool.or_false, Bool.not_true, Bool.not_false, Bool.false_and, Bool.and_false, if_true, if_false, Bool.false_eq_true, reduceIte, reduceCtorEq]
  refine (sat_draw h (by omega) (by omega)).imp ?_
  rintro _ g1 ⟨w, rfl, w0, w1, hp1⟩
  have first : SatS (sRet (eBin opAdd (eVar 1) (eTup (aCons (eBin opIx (eLst (eDisp (aCons (eC (.int 0)) (aCons (eC (.int 1)) (aCons (eTup aNil) (aCons (eTup (aCons (eC (.int 0)) (aCons (eC (.int 0)) aNil))) aNil)))))) (eCall F_law_draw (aCons (eVar 0) (aCons (eC (.int 4)) aNil)))) aNil))) [.val p, .val (.tup xs), .val (.int w), .un, .un, .un, .un] g1) (fun _ _ => False) (fun w g' => Vd (b + 16) (3 * c + 10) (d + 1 + 1) w ∧ Pool p g' (B + 4 * (d + 1 + 1))) := by
    refine SatS.ret ?_
    simp only [ev_var, ev_any, ev_c, ev_bin, ev_binF, ev_chain, ev_un, ev_cons, ev_nil, ev_tup, ev_disp, ev_lst, ev_glo, ev_callB, ev_callF, ev_call, ev_if, ev_sl, ev_oN, ev_oS, ev_rev, ev_isa, ev_tOf, ev_tAnd, ev_tOr, ev_tNot, ev_andV, ev_orV, ev_notV, ev_upper, ev_yes, ev_comp, wipeE, notOwn, List.all_cons, List.all_nil, ev_range1, ev_range2, ev_isq, ev_zip2, ev_zip3, ev_enum, optR_some, bind_ok, Sat_ok, Sat_bind, List.getElem?_cons_zero, List.getElem?_cons_succ, List.set_cons_zero, List.set_cons_succ, List.length_cons, List.length_nil, Bool.true_and, Bool.and_true, Bool.and_self, Bool.or_true, Bool.true_or, Bool.false_or, Bool.or_false, Bool.not_true, Bool.not_false, Bool.false_and, Bool.and_false, if_true, if_false, Bool.false_eq_true, reduceIte, reduceCtorEq, fits1000 (show 0 ≤ 1000000 by omega), fits1000 (show 1 ≤ 1000000 by omega), fits1000 (show 2 ≤ 1000000 by omega), fits1000 (show 4 ≤ 1000000 by omega)]
    refine (sat_pick (l := [.int 0, .int 1, .tup [], .tup [.int 0, .int 0]]) (W := fun w => Vd (b + 16) (3 * c + 10) (d + 1) w) rfl (by simp) hp1 (by omega) ?_).imp ?_
    · intro w hw
      simp only [List.mem_cons, List.not_mem_nil, or_false] at hw
      rcases hw with rfl | rfl | rfl | rfl
      · exact vd_zero
      · exact fl_vd (v := .int 1) ⟨by omega, by omega⟩ _
      · exact vd_tup (by show 0 ≤ _; omega) (by simp)
      · refine vd_tup (by show 2 ≤ _; omega) fun x hx => ?_
        simp only [List.mem_cons, List.not_mem_nil, or_false] at hx
        rcases hx with rfl | rfl <;> exact vd_zero
    · rintro _ g' ⟨i, u, rfl, hu, hW, hp⟩
      rw [ix_lst, hu]
      simp only [ev_var, ev_any, ev_c, ev_bin, ev_binF, ev_chain, ev_un, ev_cons, ev_nil, ev_tup, ev_disp, ev_lst, ev_glo, ev_callB, ev_callF, ev_call, ev_if, ev_sl, ev_oN, ev_oS, ev_rev, ev_isa, ev_tOf, ev_tAnd, ev_tOr, ev_tNot, ev_andV, ev_orV, ev_notV, ev_upper, ev_yes, ev_comp, wipeE, notOwn, List.all_cons, List.all_nil, ev_range1, ev_range2, ev_isq, ev_zip2, ev_zip3, ev_enum, optR_some, bind_ok, Sat_ok, Sat_bind, List.getElem?_cons_zero, List.getElem?_cons_succ, List.set_cons_zero, List.set_cons_succ, List.length_cons, List.length_nil, Bool.true_and, Bool.and_true, Bool.and_self, Bool.or_true, Bool.true_or, Bool.false_or, Bool.or_false, Bool.not_true, Bool.not_false, Bool.false_and, Bool.and_false, if_true, if_false, Bool.false_eq_true, reduceIte, reduceCtorEq, fits1000 (show 1 ≤ 1000000 by omega)]
      rw [add_tup (by show xs.length + 1 ≤ 1000000; omega)]
      simp only [ev_var, ev_any, ev_c, ev_bin, ev_binF, ev_chain, ev_un, ev_cons, ev_nil, ev_tup, ev_disp, ev_lst, ev_glo, ev_callB, ev_callF, ev_call, ev_if, ev_sl, ev_oN, ev_oS, ev_rev, ev_isa, ev_tOf, ev_tAnd, ev_tOr, ev_tNot, ev_andV, ev_orV, ev_notV, ev_upper, ev_yes, ev_comp, wipeE, notOwn, List.all_cons, List.all_nil, ev_range1, ev_range2, ev_isq, ev_zip2, ev_zip3, ev_enum, optR_some, bind_ok, Sat_ok, Sat_bind, List.getElem?_cons_zero, List.getElem?_cons_succ, List.set_cons_zero, List.set_cons_succ, List.length_cons, List.length_nil, Bool.true_and, Bool.and_true, Bool.and_self, Bool.or_true, Bool.true_or, Bool.false_or, Bool.or_false, Bool.not_true, Bool.not_false, Bool.false_and, Bool.and_false, if_true, if_false, Bool.false_eq_true, reduceIte, reduceCtorEq]
      exact ⟨vd_tup (by rw [List.length_append, List.length_singleton]; omega) (app el (one hW)), hp.mono (by omega)⟩
  refine SatS.seq (SatS.ite ?_)
  simp only [ev_var, ev_any, ev_c, ev_bin, ev_binF, ev_chain, ev_un, ev_cons, ev_nil, ev_tup, ev_disp, ev_lst, ev_glo, ev_callB, ev_callF, ev_call, ev_if, ev_sl, ev_oN, ev_oS, ev_rev, ev_isa, ev_tOf, ev_tAnd, ev_tOr, ev_tNot, ev_andV, ev_orV, ev_notV, ev_upper, ev_yes, ev_comp, wipeE, notOwn, List.all_cons, List.all_nil, ev_range1, ev_range2, ev_isq, ev_zip2, ev_zip3, ev_enum, optR_some, bind_ok, Sat_ok, Sat_bind, List.getElem?_cons_zero, List.getElem?_cons_succ, List.set_cons_zero, List.set_cons_succ, List.length_cons, List.length_nil, Bool.true_and, Bool.and_true, Bool.and_self, Bool.or_true, Bool.true_or, Bool.false_or, Bool.or_false, Bool.not_true, Bool.not_false, Bool.false_and, Bool.and_false, if_true, if_false, Bool.false_eq_true, reduceIte, reduceCtorEq, opAdd, opSub, opMul, opDiv, opMod, opNeg, opI, opLt, opLe, opGt, opGe, opEq, opNe, opEq_int, opIs, opIsnot, opIsB, isNonP, opIx, opLen, opTuple, opList, opInt, opAbs, opStr, opSum, opMax, opMin, opMM, opAny, opAll, opAA, asSeq, asLst, top, frSeq, kdP, isa, id_eq, Option.map_some, Option.bind_some]
  cases hz : ((xs.length : Int) == 0) with
  | true =>
    simp only [ev_var, ev_any, ev_c, ev_bin, ev_binF, ev_chain, ev_un, ev_cons, ev_nil, ev_tup, ev_disp, ev_lst, ev_glo, ev_callB, ev_callF, ev_call, ev_if, ev_sl, ev_oN, ev_oS, ev_rev, ev_isa, ev_tOf, ev_tAnd, ev_tOr, ev_tNot, ev_andV, ev_orV, ev_notV, ev_upper, ev_yes, ev_comp, wipeE, notOwn, List.all_cons, List.all_nil, ev_range1, ev_range2, ev_isq, ev_zip2, ev_zip3, ev_enum, optR_some, bind_ok, Sat_ok, Sat_bind, List.getElem?_cons_zero, List.getElem?_cons_succ, List.set_cons_zero, List.set_cons_succ, List.length_cons, List.length_nil, Bool.true_and, Bool.and_true, Bool.and_self, Bool.or_true, Bool.true_or, Bool.false_or, Bool.or_false, Bool.not_true, Bool.not_false, Bool.false_and, Bool.and_false, if_true, if_false, Bool.false_eq_true, reduceIte, reduceCtorEq]
    exact first.imp (fun _ _ q => q.elim) fun _ _ q => q
  | false =>
    have hpos : 0 < xs.length := by
      have := beq_eq_false_iff_ne.mp hz
      omega
    simp only [ev_var, ev_any, ev_c, ev_bin, ev_binF, ev_chain, ev_un, ev_cons, ev_nil, ev_tup, ev_disp, ev_lst, ev_glo, ev_callB, ev_callF, ev_call, ev_if, ev_sl, ev_oN, ev_oS, ev_rev, ev_isa, ev_tOf, ev_tAnd, ev_tOr, ev_tNot, ev_andV, ev_orV, ev_notV, ev_upper, ev_yes, ev_comp, wipeE, notOwn, List.all_cons, List.all_nil, ev_range1, ev_range2, ev_isq, ev_zip2, ev_zip3, ev_enum, optR_some, bind_ok, Sat_ok, Sat_bind, List.getElem?_cons_zero, List.getElem?_cons_succ, List.set_cons_zero, List.set_cons_succ, List.length_cons, List.length_nil, Bool.true_and, Bool.and_true, Bool.and_self, Bool.or_true, Bool.true_or, Bool.false_or, Bool.or_false, Bool.not_true, Bool.not_false, Bool.false_and, Bool.and_false, if_true, if_false, Bool.false_eq_true, reduceIte, reduceCtorEq, opAdd, opSub, opMul, opDiv, opMod, opNeg, opI, opLt, opLe, opGt, opGe, opEq, opNe, opEq_int, opIs, opIsnot, opIsB, isNonP, opIx, opLen, opTuple, opList, opInt, opAbs, opStr, opSum, opMax, opMin, opMM, opAny, opAll, opAA, asSeq, asLst, top, frSeq, kdP, isa, id_eq, Option.map_some, Option.bind_some]
    cases hw0 : (w == 0) with
    | true =>
      simp only [ev_var, ev_any, ev_c, ev_bin, ev_binF, ev_chain, ev_un, ev_cons, ev_nil, ev_tup, ev_disp, ev_lst, ev_glo, ev_callB, ev_callF, ev_call, ev_if, ev_sl, ev_oN, ev_oS, ev_rev, ev_isa, ev_tOf, ev_tAnd, ev_tOr, ev_tNot, ev_andV, ev_orV, ev_notV, ev_upper, ev_yes, ev_comp, wipeE, notOwn, List.all_cons, List.all_nil, ev_range1, ev_range2, ev_isq, ev_zip2, ev_zip3, ev_enum, optR_some, bind_ok, Sat_ok, Sat_bind, List.getElem?_cons_zero, List.getElem?_cons_succ, List.set_cons_zero, List.set_cons_succ, List.length_cons, List.length_nil, Bool.true_and, Bool.and_true, Bool.and_self, Bool.or_true, Bool.true_or, Bool.false_or, Bool.or_false, Bool.not_true, Bool.not_false, Bool.false_and, Bool.and_false, if_true, if_false, Bool.false_eq_true, reduceIte, reduceCtorEq]
      exact first.imp (fun _ _ q => q.elim) fun _ _ q => q
    | false =>
      simp only [ev_var, ev_any, ev_c, ev_bin, ev_binF, ev_chain, ev_un, ev_cons, ev_nil, ev_tup, ev_disp, ev_lst, ev_glo, ev_callB, ev_callF, ev_call, ev_if, ev_sl, ev_oN, ev_oS, ev_rev, ev_isa, ev_tOf, ev_tAnd, ev_tOr, ev_tNot, ev_andV, ev_orV, ev_notV, ev_upper, ev_yes, ev_comp, wipeE, notOwn, List.all_cons, List.all_nil, ev_range1, ev_range2, ev_isq, ev_zip2, ev_zip3, ev_enum, optR_some, bind_ok, Sat_ok, Sat_bind, List.getElem?_cons_zero, List.getElem?_cons_succ, List.set_cons_zero, List.set_cons_succ, List.length_cons, List.length_nil, Bool.true_and, Bool.and_true, Bool.and_self, Bool.or_true, Bool.true_or, Bool.false_or, Bool.or_false, Bool.not_true, Bool.not_false, Bool.false_and, Bool.and_false, if_true, if_false, Bool.false_eq_true, reduceIte, reduceCtorEq]
      refine SatS.nil (SatS.seq (SatS.set ?_))
      simp only [ev_var, ev_any, ev_c, ev_bin, ev_binF, ev_chain, ev_un, ev_cons, ev_nil, ev_tup, ev_disp, ev_lst, ev_glo, ev_callB, ev_callF, ev_call, ev_if, ev_sl, ev_oN, ev_oS, ev_rev, ev_isa, ev_tOf, ev_tAnd, ev_tOr, ev_tNot, ev_andV, ev_orV, ev_notV, ev_upper, ev_yes, ev_comp, wipeE, notOwn, List.all_cons, List.all_nil, ev_range1, ev_range2, ev_isq, ev_zip2, ev_zip3, ev_enum, optR_some, bind_ok, Sat_ok, Sat_bind, List.getElem?_cons_zero, List.getElem?_cons_succ, List.set_cons_zero, List.set_cons_succ, List.length_cons, List.length_nil, Bool.true_and, Bool.and_true, Bool.and_self, Bool.or_true, Bool.true_or, Bool.false_or, Bool.or_false, Bool.not_true, Bool.not_false, Bool.false_and, Bool.and_false, if_true, if_false, Bool.false_eq_true, reduceIte, reduceCtorEq, opAdd, opSub, opMul, opDiv, opMod, opNeg, opI, opLt, opLe, opGt, opGe, opEq, opNe, opEq_int, opIs, opIsnot, opIsB, isNonP, opIx, opLen, opTuple, opList, opInt, opAbs, opStr, opSum, opMax, opMin, opMM, opAny, opAll, opAA, asSeq, asLst, top, frSeq, kdP, isa, id_eq, Option.map_some, Option.bind_some]
      refine (sat_draw hp1 (by omega) (by omega)).imp ?_
      rintro _ g2 ⟨at_, rfl, a0, a1, hp2⟩
      obtain ⟨va, hva, hvm⟩ := atI_mem (l := xs) a0 a1
      refine SatS.seq (SatS.ite ?_)
      simp only [ev_var, ev_any, ev_c, ev_bin, ev_binF, ev_chain, ev_un, ev_cons, ev_nil, ev_tup, ev_disp, ev_lst, ev_glo, ev_callB, ev_callF, ev_call, ev_if, ev_sl, ev_oN, ev_oS, ev_rev, ev_isa, ev_tOf, ev_tAnd, ev_tOr, ev_tNot, ev_andV, ev_orV, ev_notV, ev_upper, ev_yes, ev_comp, wipeE, notOwn, List.all_cons, List.all_nil, ev_range1, ev_range2, ev_isq, ev_zip2, ev_zip3, ev_enum, optR_some, bind_ok, Sat_ok, Sat_bind, List.getElem?_cons_zero, List.getElem?_cons_succ, List.set_cons_zero, List.set_cons_succ, List.length_cons, List.length_nil, Bool.true_and, Bool.and_true, Bool.and_self, Bool.or_true, Bool.true_or, Bool.false_or, Bool.or_false, Bool.not_true, Bool.not_false, Bool.false_and, Bool.and_false, if_true, if_false, Bool.false_eq_true, reduceIte, reduceCtorEq, opAdd, opSub, opMul, opDiv, opMod, opNeg, opI, opLt, opLe, opGt, opGe, opEq, opNe, opEq_int, opIs, opIsnot, opIsB, isNonP, opIx, opLen, opTuple, opList, opInt, opAbs, opStr, opSum, opMax, opMin, opMM, opAny, opAll, opAA, asSeq, asLst, top, frSeq, kdP, isa, id_eq, Option.map_some, Option.bind_some]
      cases hw1 : (w == 1) with
      | true =>
        refine SatS.ret ?_
        simp only [ev_var, ev_any, ev_c, ev_bin, ev_binF, ev_chain, ev_un, ev_cons, ev_nil, ev_tup, ev_disp, ev_lst, ev_glo, ev_callB, ev_callF, ev_call, ev_if, ev_sl, ev_oN, ev_oS, ev_rev, ev_isa, ev_tOf, ev_tAnd, ev_tOr, ev_tNot, ev_andV, ev_orV, ev_notV, ev_upper, ev_yes, ev_comp, wipeE, notOwn, List.all_cons, List.all_nil, ev_range1, ev_range2, ev_isq, ev_zip2, ev_zip3, ev_enum, optR_some, bind_ok, Sat_ok, Sat_bind, List.getElem?_cons_zero, List.getElem?_cons_succ, List.set_cons_zero, List.set_cons_succ, List.length_cons, List.length_nil, Bool.true_and, Bool.and_true, Bool.and_self, Bool.or_true, Bool.true_or, Bool.false_or, Bool.or_false, Bool.not_true, Bool.not_false, Bool.false_and, Bool.and_false, if_true, if_false, Bool.false_eq_true, reduceIte, reduceCtorEq, opSl_tup, opI, opSub, add_int]
        rw [add_tup (by have := cut none (some at_); have := cut (some (at_ + 1)) none; omega)]
        simp only [ev_var, ev_any, ev_c, ev_bin, ev_binF, ev_chain, ev_un, ev_cons, ev_nil, ev_tup, ev_disp, ev_lst, ev_glo, ev_callB, ev_callF, ev_call, ev_if, ev_sl, ev_oN, ev_oS, ev_rev, ev_isa, ev_tOf, ev_tAnd, ev_tOr, ev_tNot, ev_andV, ev_orV, ev_notV, ev_upper, ev_yes, ev_comp, wipeE, notOwn, List.all_cons, List.all_nil, ev_range1, ev_range2, ev_isq, ev_zip2, ev_zip3, ev_enum, optR_some, bind_ok, Sat_ok, Sat_bind, List.getElem?_cons_zero, List.getElem?_cons_succ, List.set_cons_zero, List.set_cons_succ, List.length_cons, List.length_nil, Bool.true_and, Bool.and_true, Bool.and_self, Bool.or_true, Bool.true_or, Bool.false_or, Bool.or_false, Bool.not_true, Bool.not_false, Bool.false_and, Bool.and_false, if_true, if_false, Bool.false_eq_true, reduceIte, reduceCtorEq]
        exact ⟨vd_tup (by rw [List.length_append]; have := cut none (some at_); have := cut (some (at_ + 1)) none; omega) (app (cel _ _) (cel _ _)), hp2.mono (by omega)⟩
      | false =>
        refine SatS.nil (SatS.seq (SatS.ite ?_))
        have rest : ∀ (g3 : G) (C : Nat), C ≤ B + 3 → Pool p g3 C → SatS ((sSeq (sIf (tOf (eBin opEq (eVar 2) (eC (.int 3)))) (sRet (eBin opAdd (eBin opAdd (eSl (eVar 1) oNone (oSome (eVar 3))) (eTup (aCons (eBin opIx (eVar 1) (eVar 3)) aNil))) (eSl (eVar 1) (oSome (eVar 3)) oNone))) sNil)
    (sSeq (sIf (tAnd' (tOf (eBin opEq (eVar 2) (eC (.int 4)))) (tOf (eBin opGt (eCallB opLen (aCons (eVar 1) aNil)) (eC (.int 1))))) (sSeq (sSet 4 (eBin opMod (eBin opAdd (eVar 3) (eC (.int 1))) (eCallB opLen (aCons (eVar 1) aNil))))
    (sSeq (sSet 5 (eCallB opMin (aCons (eVar 3) (aCons (eVar 4) aNil))))
    (sSeq (sSet 6 (eCallB opMax (aCons (eVar 3) (aCons (eVar 4) aNil))))
    (sRet (eBin opAdd (eBin opAdd (eBin opAdd (eBin opAdd (eSl (eVar 1) oNone (oSome (eVar 5))) (eTup (aCons (eBin opIx (eVar 1) (eVar 6)) aNil))) (eSl (eVar 1) (oSome (eBin opAdd (eVar 5) (eC (.int 1)))) (oSome (eVar 6)))) (eTup (aCons (eBin opIx (eVar 1) (eVar 5)) aNil))) (eSl (eVar 1) (oSome (eBin opAdd (eVar 6) (eC (.int 1)))) oNone)))))) sNil)
    (sRet (eBin opAdd (eBin opAdd (eSl (eVar 1) oNone (oSome (eVar 3))) (eTup (aCons (eCall (F_law_bent m) (aCons (eVar 0) (aCons (eBin opIx (eVar 1) (eVar 3)) aNil))) aNil))) (eSl (eVar 1) (oSome (eBin opAdd (eVar 3) (eC (.int 1)))) oNone)))))
            [.val p, .val (.tup xs), .val (.int w), .val (.int at_), .un, .un, .un] g3) (fun _ _ => False) (fun w g' => Vd (b + 16) (3 * c + 10) (d + 1 + 1) w ∧ Pool p g' (B + 4 * (d + 1 + 1))) := by
          intro g3 C hC hp3
          refine SatS.seq (SatS.ite ?_)
          simp only [ev_var, ev_any, ev_c, ev_bin, ev_binF, ev_chain, ev_un, ev_cons, ev_nil, ev_tup, ev_disp, ev_lst, ev_glo, ev_callB, ev_callF, ev_call, ev_if, ev_sl, ev_oN, ev_oS, ev_rev, ev_isa, ev_tOf, ev_tAnd, ev_tOr, ev_tNot, ev_andV, ev_orV, ev_notV, ev_upper, ev_yes, ev_comp, wipeE, notOwn, List.all_cons, List.all_nil, ev_range1, ev_range2, ev_isq, ev_zip2, ev_zip3, ev_enum, optR_some, bind_ok, Sat_ok, Sat_bind, List.getElem?_cons_zero, List.getElem?_cons_succ, List.set_cons_zero, List.set_cons_succ, List.length_cons, List.length_nil, Bool.true_and, Bool.and_true, Bool.and_self, Bool.or_true, Bool.true_or, Bool.false_or, Bool.or_false, Bool.not_true, Bool.not_false, Bool.false_and, Bool.and_false, if_true, if_false, Bool.false_eq_true, reduceIte, reduceCtorEq, opAdd, opSub, opMul, opDiv, opMod, opNeg, opI, opLt, opLe, opGt, opGe, opEq, opNe, opEq_int, opIs, opIsnot, opIsB, isNonP, opIx, opLen, opTuple, opList, opInt, opAbs, opStr, opSum, opMax, opMin, opMM, opAny, opAll, opAA, asSeq, asLst, top, frSeq, kdP, isa, id_eq, Option.map_some, Option.bind_some]
          cases hw3 : (w == 3) with
          | true =>
            refine SatS.ret ?_
            simp only [ev_var, ev_any, ev_c, ev_bin, ev_binF, ev_chain, ev_un, ev_cons, ev_nil, ev_tup, ev_disp, ev_lst, ev_glo, ev_callB, ev_callF, ev_call, ev_if, ev_sl, ev_oN, ev_oS, ev_rev, ev_isa, ev_tOf, ev_tAnd, ev_tOr, ev_tNot, ev_andV, ev_orV, ev_notV, ev_upper, ev_yes, ev_comp, wipeE, notOwn, List.all_cons, List.all_nil, ev_range1, ev_range2, ev_isq, ev_zip2, ev_zip3, ev_enum, optR_some, bind_ok, Sat_ok, Sat_bind, List.getElem?_cons_zero, List.getElem?_cons_succ, List.set_cons_zero, List.set_cons_succ, List.length_cons, List.length_nil, Bool.true_and, Bool.and_true, Bool.and_self, Bool.or_true, Bool.true_or, Bool.false_or, Bool.or_false, Bool.not_true, Bool.not_false, Bool.false_and, Bool.and_false, if_true, if_false, Bool.false_eq_true, reduceIte, reduceCtorEq, opSl_tup, ix_tup, hva, fits1000 (show 1 ≤ 1000000 by omega)]
            rw [add_tup (by have := cut none (some at_); show _ + 1 ≤ _; omega)]
            simp only [ev_var, ev_any, ev_c, ev_bin, ev_binF, ev_chain, ev_un, ev_cons, ev_nil, ev_tup, ev_disp, ev_lst, ev_glo, ev_callB, ev_callF, ev_call, ev_if, ev_sl, ev_oN, ev_oS, ev_rev, ev_isa, ev_tOf, ev_tAnd, ev_tOr, ev_tNot, ev_andV, ev_orV, ev_notV, ev_upper, ev_yes, ev_comp, wipeE, notOwn, List.all_cons, List.all_nil, ev_range1, ev_range2, ev_isq, ev_zip2, ev_zip3, ev_enum, optR_some, bind_ok, Sat_ok, Sat_bind, List.getElem?_cons_zero, List.getElem?_cons_succ, List.set_cons_zero, List.set_cons_succ, List.length_cons, List.length_nil, Bool.true_and, Bool.and_true, Bool.and_self, Bool.or_true, Bool.true_or, Bool.false_or, Bool.or_false, Bool.not_true, Bool.not_false, Bool.false_and, Bool.and_false, if_true, if_false, Bool.false_eq_true, reduceIte, reduceCtorEq]
            rw [add_tup (by rw [List.length_append, List.length_singleton]; have := cut none (some at_); have := cut (some at_) none; omega)]
            simp only [ev_var, ev_any, ev_c, ev_bin, ev_binF, ev_chain, ev_un, ev_cons, ev_nil, ev_tup, ev_disp, ev_lst, ev_glo, ev_callB, ev_callF, ev_call, ev_if, ev_sl, ev_oN, ev_oS, ev_rev, ev_isa, ev_tOf, ev_tAnd, ev_tOr, ev_tNot, ev_andV, ev_orV, ev_notV, ev_upper, ev_yes, ev_comp, wipeE, notOwn, List.all_cons, List.all_nil, ev_range1, ev_range2, ev_isq, ev_zip2, ev_zip3, ev_enum, optR_some, bind_ok, Sat_ok, Sat_bind, List.getElem?_cons_zero, List.getElem?_cons_succ, List.set_cons_zero, List.set_cons_succ, List.length_cons, List.length_nil, Bool.true_and, Bool.and_true, Bool.and_self, Bool.or_true, Bool.true_or, Bool.false_or, Bool.or_false, Bool.not_true, Bool.not_false, Bool.false_and, Bool.and_false, if_true, if_false, Bool.false_eq_true, reduceIte, reduceCtorEq]
            exact ⟨vd_tup (by rw [List.length_append, List.length_append, List.length_singleton]; have := cut none (some at_); have := cut (some at_) none; omega) (app (app (cel _ _) (one (el _ hvm))) (cel _ _)), hp3.mono (by omega)⟩
          | false =>
            have last : SatS (sRet (eBin opAdd (eBin opAdd (eSl (eVar 1) oNone (oSome (eVar 3))) (eTup (aCons (eCall (F_law_bent m) (aCons (eVar 0) (aCons (eBin opIx (eVar 1) (eVar 3)) aNil))) aNil))) (eSl (eVar 1) (oSome (eBin opAdd (eVar 3) (eC (.int 1)))) oNone)) [.val p, .val (.tup xs), .val (.int w), .val (.int at_), .un, .un, .un] g3) (fun _ _ => False) (fun w g' => Vd (b + 16) (3 * c + 10) (d + 1 + 1) w ∧ Pool p g' (B + 4 * (d + 1 + 1))) := by
              refine SatS.ret ?_
              simp only [ev_var, ev_any, ev_c, ev_bin, ev_binF, ev_chain, ev_un, ev_cons, ev_nil, ev_tup, ev_disp, ev_lst, ev_glo, ev_callB, ev_callF, ev_call, ev_if, ev_sl, ev_oN, ev_oS, ev_rev, ev_isa, ev_tOf, ev_tAnd, ev_tOr, ev_tNot, ev_andV, ev_orV, ev_notV, ev_upper, ev_yes, ev_comp, wipeE, notOwn, List.all_cons, List.all_nil, ev_range1, ev_range2, ev_isq, ev_zip2, ev_zip3, ev_enum, optR_some, bind_ok, Sat_ok, Sat_bind, List.getElem?_cons_zero, List.getElem?_cons_succ, List.set_cons_zero, List.set_cons_succ, List.length_cons, List.length_nil, Bool.true_and, Bool.and_true, Bool.and_self, Bool.or_true, Bool.true_or, Bool.false_or, Bool.or_false, Bool.not_true, Bool.not_false, Bool.false_and, Bool.and_false, if_true, if_false, Bool.false_eq_true, reduceIte, reduceCtorEq, opSl_tup, ix_tup, hva]
              refine (rec va hvm g3 C hp3 (by omega)).imp ?_
              rintro u g4 ⟨hu, hp4⟩
              simp only [ev_var, ev_any, ev_c, ev_bin, ev_binF, ev_chain, ev_un, ev_cons, ev_nil, ev_tup, ev_disp, ev_lst, ev_glo, ev_callB, ev_callF, ev_call, ev_if, ev_sl, ev_oN, ev_oS, ev_rev, ev_isa, ev_tOf, ev_tAnd, ev_tOr, ev_tNot, ev_andV, ev_orV, ev_notV, ev_upper, ev_yes, ev_comp, wipeE, notOwn, List.all_cons, List.all_nil, ev_range1, ev_range2, ev_isq, ev_zip2, ev_zip3, ev_enum, optR_some, bind_ok, Sat_ok, Sat_bind, List.getElem?_cons_zero, List.getElem?_cons_succ, List.set_cons_zero, List.set_cons_succ, List.length_cons, List.length_nil, Bool.true_and, Bool.and_true, Bool.and_self, Bool.or_true, Bool.true_or, Bool.false_or, Bool.or_false, Bool.not_true, Bool.not_false, Bool.false_and, Bool.and_false, if_true, if_false, Bool.false_eq_true, reduceIte, reduceCtorEq, opSl_tup, fits1000 (show 1 ≤ 1000000 by omega)]
              rw [add_tup (by have := cut none (some at_); show _ + 1 ≤ _; omega)]
              simp only [ev_var, ev_any, ev_c, ev_bin, ev_binF, ev_chain, ev_un, ev_cons, ev_nil, ev_tup, ev_disp, ev_lst, ev_glo, ev_callB, ev_callF, ev_call, ev_if, ev_sl, ev_oN, ev_oS, ev_rev, ev_isa, ev_tOf, ev_tAnd, ev_tOr, ev_tNot, ev_andV, ev_orV, ev_notV, ev_upper, ev_yes, ev_comp, wipeE, notOwn, List.all_cons, List.all_nil, ev_range1, ev_range2, ev_isq, ev_zip2, ev_zip3, ev_enum, optR_some, bind_ok, Sat_ok, Sat_bind, List.getElem?_cons_zero, List.getElem?_cons_succ, List.set_cons_zero, List.set_cons_succ, List.length_cons, List.length_nil, Bool.true_and, Bool.and_true, Bool.and_self, Bool.or_true, Bool.true_or, Bool.false_or, Bool.or_false, Bool.not_true, Bool.not_false, Bool.false_and, Bool.and_false, if_true, if_false, Bool.false_eq_true, reduceIte, reduceCtorEq, opSl_tup, opI, opSub, add_int]
              rw [add_tup (by rw [List.length_append, List.length_singleton]; have := cut none (some at_); have := cut (some (at_ + 1)) none; omega)]
              simp only [ev_var, ev_any, ev_c, ev_bin, ev_binF, ev_chain, ev_un, ev_cons, ev_nil, ev_tup, ev_disp, ev_lst, ev_glo, ev_callB, ev_callF, ev_call, ev_if, ev_sl, ev_oN, ev_oS, ev_rev, ev_isa, ev_tOf, ev_tAnd, ev_tOr, ev_tNot, ev_andV, ev_orV, ev_notV, ev_upper, ev_yes, ev_comp, wipeE, notOwn, List.all_cons, List.all_nil, ev_range1, ev_range2, ev_isq, ev_zip2, ev_zip3, ev_enum, optR_some, bind_ok, Sat_ok, Sat_bind, List.getElem?_cons_zero, List.getElem?_cons_succ, List.set_cons_zero, List.set_cons_succ, List.length_cons, List.length_nil, Bool.true_and, Bool.and_true, Bool.and_self, Bool.or_true, Bool.true_or, Bool.false_or, Bool.or_false, Bool.not_true, Bool.not_false, Bool.false_and, Bool.and_false, if_true, if_false, Bool.false_eq_true, reduceIte, reduceCtorEq]
              exact ⟨vd_tup (by rw [List.length_append, List.length_append, List.length_singleton]; have := cut none (some at_); have := cut (some (at_ + 1)) none; omega) (app (app (cel _ _) (one hu)) (cel _ _)), hp4.mono (by omega)⟩
            refine SatS.nil (SatS.seq (SatS.ite ?_))
            simp only [ev_var, ev_any, ev_c, ev_bin, ev_binF, ev_chain, ev_un, ev_cons, ev_nil, ev_tup, ev_disp, ev_lst, ev_glo, ev_callB, ev_callF, ev_call, ev_if, ev_sl, ev_oN, ev_oS, ev_rev, ev_isa, ev_tOf, ev_tAnd, ev_tOr, ev_tNot, ev_andV, ev_orV, ev_notV, ev_upper, ev_yes, ev_comp, wipeE, notOwn, List.all_cons, List.all_nil, ev_range1, ev_range2, ev_isq, ev_zip2, ev_zip3, ev_enum, optR_some, bind_ok, Sat_ok, Sat_bind, List.getElem?_cons_zero, List.getElem?_cons_succ, List.set_cons_zero, List.set_cons_succ, List.length_cons, List.length_nil, Bool.true_and, Bool.and_true, Bool.and_self, Bool.or_true, Bool.true_or, Bool.false_or, Bool.or_false, Bool.not_true, Bool.not_false, Bool.false_and, Bool.and_false, if_true, if_false, Bool.false_eq_true, reduceIte, reduceCtorEq, opAdd, opSub, opMul, opDiv, opMod, opNeg, opI, opLt, opLe, opGt, opGe, opEq, opNe, opEq_int, opIs, opIsnot, opIsB, isNonP, opIx, opLen, opTuple, opList, opInt, opAbs, opStr, opSum, opMax, opMin, opMM, opAny, opAll, opAA, asSeq, asLst, top, frSeq, kdP, isa, id_eq, Option.map_some, Option.bind_some]
            cases hw4 : (w == 4) with
            | false =>
              simp only [ev_var, ev_any, ev_c, ev_bin, ev_binF, ev_chain, ev_un, ev_cons, ev_nil, ev_tup, ev_disp, ev_lst, ev_glo, ev_callB, ev_callF, ev_call, ev_if, ev_sl, ev_oN, ev_oS, ev_rev, ev_isa, ev_tOf, ev_tAnd, ev_tOr, ev_tNot, ev_andV, ev_orV, ev_notV, ev_upper, ev_yes, ev_comp, wipeE, notOwn, List.all_cons, List.all_nil, ev_range1, ev_range2, ev_isq, ev_zip2, ev_zip3, ev_enum, optR_some, bind_ok, Sat_ok, Sat_bind, List.getElem?_cons_zero, List.getElem?_cons_succ, List.set_cons_zero, List.set_cons_succ, List.length_cons, List.length_nil, Bool.true_and, Bool.and_true, Bool.and_self, Bool.or_true, Bool.true_or, Bool.false_or, Bool.or_false, Bool.not_true, Bool.not_false, Bool.false_and, Bool.and_false, if_true, if_false, Bool.false_eq_true, reduceIte, reduceCtorEq]
              exact SatS.nil last
            | true =>
              simp only [ev_var, ev_any, ev_c, ev_bin, ev_binF, ev_chain, ev_un, ev_cons, ev_nil, ev_tup, ev_disp, ev_lst, ev_glo, ev_callB, ev_callF, ev_call, ev_if, ev_sl, ev_oN, ev_oS, ev_rev, ev_isa, ev_tOf, ev_tAnd, ev_tOr, ev_tNot, ev_andV, ev_orV, ev_notV, ev_upper, ev_yes, ev_comp, wipeE, notOwn, List.all_cons, List.all_nil, ev_range1, ev_range2, ev_isq, ev_zip2, ev_zip3, ev_enum, optR_some, bind_ok, Sat_ok, Sat_bind, List.getElem?_cons_zero, List.getElem?_cons_succ, List.set_cons_zero, List.set_cons_succ, List.length_cons, List.length_nil, Bool.true_and, Bool.and_true, Bool.and_self, Bool.or_true, Bool.true_or, Bool.false_or, Bool.or_false, Bool.not_true, Bool.not_false, Bool.false_and, Bool.and_false, if_true, if_false, Bool.false_eq_true, reduceIte, reduceCtorEq, opAdd, opSub, opMul, opDiv, opMod, opNeg, opI, opLt, opLe, opGt, opGe, opEq, opNe, opEq_int, opIs, opIsnot, opIsB, isNonP, opIx, opLen, opTuple, opList, opInt, opAbs, opStr, opSum, opMax, opMin, opMM, opAny, opAll, opAA, asSeq, asLst, top, frSeq, kdP, isa, id_eq, Option.map_some, Option.bind_some]
              by_cases hgt : (1 : Int) < xs.length
              · simp only [decide_eq_true hgt]
                have hm0 : 0 ≤ (at_ + 1) % (xs.length : Int) := Int.emod_nonneg _ (by omega)
                have hm1 : (at_ + 1) % (xs.length : Int) < xs.length := Int.emod_lt_of_pos _ (by omega)
                refine SatS.seq (SatS.set ?_)
                simp only [ev_var, ev_any, ev_c, ev_bin, ev_binF, ev_chain, ev_un, ev_cons, ev_nil, ev_tup, ev_disp, ev_lst, ev_glo, ev_callB, ev_callF, ev_call, ev_if, ev_sl, ev_oN, ev_oS, ev_rev, ev_isa, ev_tOf, ev_tAnd, ev_tOr, ev_tNot, ev_andV, ev_orV, ev_notV, ev_upper, ev_yes, ev_comp, wipeE, notOwn, List.all_cons, List.all_nil, ev_range1, ev_range2, ev_isq, ev_zip2, ev_zip3, ev_enum, optR_some, bind_ok, Sat_ok, Sat_bind, List.getElem?_cons_zero, List.getElem?_cons_succ, List.set_cons_zero, List.set_cons_succ, List.length_cons, List.length_nil, Bool.true_and, Bool.and_true, Bool.and_self, Bool.or_true, Bool.true_or, Bool.false_or, Bool.or_false, Bool.not_true, Bool.not_false, Bool.false_and, Bool.and_false, if_true, if_false, Bool.false_eq_true, reduceIte, reduceCtorEq, opAdd, opSub, opMul, opDiv, opMod, opNeg, opI, opLt, opLe, opGt, opGe, opEq, opNe, opEq_int, opIs, opIsnot, opIsB, isNonP, opIx, opLen, opTuple, opList, opInt, opAbs, opStr, opSum, opMax, opMin, opMM, opAny, opAll, opAA, asSeq, asLst, top, frSeq, kdP, isa, id_eq, Option.map_some, Option.bind_some, decide_eq_true (show (0 : Int) < xs.length by omega)]
                refine SatS.seq (SatS.set ?_)
                simp only [ev_var, ev_any, ev_c, ev_bin, ev_binF, ev_chain, ev_un, ev_cons, ev_nil, ev_tup, ev_disp, ev_lst, ev_glo, ev_callB, ev_callF, ev_call, ev_if, ev_sl, ev_oN, ev_oS, ev_rev, ev_isa, ev_tOf, ev_tAnd, ev_tOr, ev_tNot, ev_andV, ev_orV, ev_notV, ev_upper, ev_yes, ev_comp, wipeE, notOwn, List.all_cons, List.all_nil, ev_range1, ev_range2, ev_isq, ev_zip2, ev_zip3, ev_enum, optR_some, bind_ok, Sat_ok, Sat_bind, List.getElem?_cons_zero, List.getElem?_cons_succ, List.set_cons_zero, List.set_cons_succ, List.length_cons, List.length_nil, Bool.true_and, Bool.and_true, Bool.and_self, Bool.or_true, Bool.true_or, Bool.false_or, Bool.or_false, Bool.not_true, Bool.not_false, Bool.false_and, Bool.and_false, if_true, if_false, Bool.false_eq_true, reduceIte, reduceCtorEq, opAdd, opSub, opMul, opDiv, opMod, opNeg, opI, opLt, opLe, opGt, opGe, opEq, opNe, opEq_int, opIs, opIsnot, opIsB, isNonP, opIx, opLen, opTuple, opList, opInt, opAbs, opStr, opSum, opMax, opMin, opMM, opAny, opAll, opAA, asSeq, asLst, top, frSeq, kdP, isa, id_eq, Option.map_some, Option.bind_some]
                refine SatS.seq (SatS.set ?_)
                simp only [ev_var, ev_any, ev_c, ev_bin, ev_binF, ev_chain, ev_un, ev_cons, ev_nil, ev_tup, ev_disp, ev_lst, ev_glo, ev_callB, ev_callF, ev_call, ev_if, ev_sl, ev_oN, ev_oS, ev_rev, ev_isa, ev_tOf, ev_tAnd, ev_tOr, ev_tNot, ev_andV, ev_orV, ev_notV, ev_upper, ev_yes, ev_comp, wipeE, notOwn, List.all_cons, List.all_nil, ev_range1, ev_range2, ev_isq, ev_zip2, ev_zip3, ev_enum, optR_some, bind_ok, Sat_ok, Sat_bind, List.getElem?_cons_zero, List.getElem?_cons_succ, List.set_cons_zero, List.set_cons_succ, List.length_cons, List.length_nil, Bool.true_and, Bool.and_true, Bool.and_self, Bool.or_true, Bool.true_or, Bool.false_or, Bool.or_false, Bool.not_true, Bool.not_false, Bool.false_and, Bool.and_false, if_true, if_false, Bool.false_eq_true, reduceIte, reduceCtorEq, opAdd, opSub, opMul, opDiv, opMod, opNeg, opI, opLt, opLe, opGt, opGe, opEq, opNe, opEq_int, opIs, opIsnot, opIsB, isNonP, opIx, opLen, opTuple, opList, opInt, opAbs, opStr, opSum, opMax, opMin, opMM, opAny, opAll, opAA, asSeq, asLst, top, frSeq, kdP, isa, id_eq, Option.map_some, Option.bind_some]
                refine SatS.ret ?_
                obtain ⟨v1, hv1, hm1'⟩ := atI_mem (l := xs) (i := max at_ ((at_ + 1) % (xs.length : Int))) (by omega) (by omega)
                obtain ⟨v2, hv2, hm2'⟩ := atI_mem (l := xs) (i := min at_ ((at_ + 1) % (xs.length : Int))) (by omega) (by omega)
                generalize max at_ ((at_ + 1) % (xs.length : Int)) = hi at hv1
                generalize min at_ ((at_ + 1) % (xs.length : Int)) = lo at hv2
                have l1 := cut none (some lo)
                have l2 := cut (some (lo + 1)) (some hi)
                have l3 := cut (some (hi + 1)) none
                simp only [ev_var, ev_any, ev_c, ev_bin, ev_binF, ev_chain, ev_un, ev_cons, ev_nil, ev_tup, ev_disp, ev_lst, ev_glo, ev_callB, ev_callF, ev_call, ev_if, ev_sl, ev_oN, ev_oS, ev_rev, ev_isa, ev_tOf, ev_tAnd, ev_tOr, ev_tNot, ev_andV, ev_orV, ev_notV, ev_upper, ev_yes, ev_comp, wipeE, notOwn, List.all_cons, List.all_nil, ev_range1, ev_range2, ev_isq, ev_zip2, ev_zip3, ev_enum, optR_some, bind_ok, Sat_ok, Sat_bind, List.getElem?_cons_zero, List.getElem?_cons_succ, List.set_cons_zero, List.set_cons_succ, List.length_cons, List.length_nil, Bool.true_and, Bool.and_true, Bool.and_self, Bool.or_true, Bool.true_or, Bool.false_or, Bool.or_false, Bool.not_true, Bool.not_false, Bool.false_and, Bool.and_false, if_true, if_false, Bool.false_eq_true, reduceIte, reduceCtorEq, opSl_tup, ix_tup, hv1, hv2, fits1000 (show 1 ≤ 1000000 by omega)]
                rw [add_tup (by show _ + 1 ≤ _; omega)]
                simp only [ev_var, ev_any, ev_c, ev_bin, ev_binF, ev_chain, ev_un, ev_cons, ev_nil, ev_tup, ev_disp, ev_lst, ev_glo, ev_callB, ev_callF, ev_call, ev_if, ev_sl, ev_oN, ev_oS, ev_rev, ev_isa, ev_tOf, ev_tAnd, ev_tOr, ev_tNot, ev_andV, ev_orV, ev_notV, ev_upper, ev_yes, ev_comp, wipeE, notOwn, List.all_cons, List.all_nil, ev_range1, ev_range2, ev_isq, ev_zip2, ev_zip3, ev_enum, optR_some, bind_ok, Sat_ok, Sat_bind, List.getElem?_cons_zero, List.getElem?_cons_succ, List.set_cons_zero, List.set_cons_succ, List.length_cons, List.length_nil, Bool.true_and, Bool.and_true, Bool.and_self, Bool.or_true, Bool.true_or, Bool.false_or, Bool.or_false, Bool.not_true, Bool.not_false, Bool.false_and, Bool.and_false, if_true, if_false, Bool.false_eq_true, reduceIte, reduceCtorEq, opSl_tup, opI, opSub, add_int]
                rw [add_tup (by rw [List.length_append, List.length_singleton]; omega)]
                simp only [ev_var, ev_any, ev_c, ev_bin, ev_binF, ev_chain, ev_un, ev_cons, ev_nil, ev_tup, ev_disp, ev_lst, ev_glo, ev_callB, ev_callF, ev_call, ev_if, ev_sl, ev_oN, ev_oS, ev_rev, ev_isa, ev_tOf, ev_tAnd, ev_tOr, ev_tNot, ev_andV, ev_orV, ev_notV, ev_upper, ev_yes, ev_comp, wipeE, notOwn, List.all_cons, List.all_nil, ev_range1, ev_range2, ev_isq, ev_zip2, ev_zip3, ev_enum, optR_some, bind_ok, Sat_ok, Sat_bind, List.getElem?_cons_zero, List.getElem?_cons_succ, List.set_cons_zero, List.set_cons_succ, List.length_cons, List.length_nil, Bool.true_and, Bool.and_true, Bool.and_self, Bool.or_true, Bool.true_or, Bool.false_or, Bool.or_false, Bool.not_true, Bool.not_false, Bool.false_and, Bool.and_false, if_true, if_false, Bool.false_eq_true, reduceIte, reduceCtorEq, opSl_tup, ix_tup, hv1, hv2, fits1000 (show 1 ≤ 1000000 by omega)]
                rw [add_tup (by rw [List.length_append, List.length_append, List.length_singleton]; show _ + 1 ≤ _; omega)]
                simp only [ev_var, ev_any, ev_c, ev_bin, ev_binF, ev_chain, ev_un, ev_cons, ev_nil, ev_tup, ev_disp, ev_lst, ev_glo, ev_callB, ev_callF, ev_call, ev_if, ev_sl, ev_oN, ev_oS, ev_rev, ev_isa, ev_tOf, ev_tAnd, ev_tOr, ev_tNot, ev_andV, ev_orV, ev_notV, ev_upper, ev_yes, ev_comp, wipeE, notOwn, List.all_cons, List.all_nil, ev_range1, ev_range2, ev_isq, ev_zip2, ev_zip3, ev_enum, optR_some, bind_ok, Sat_ok, Sat_bind, List.getElem?_cons_zero, List.getElem?_cons_succ, List.set_cons_zero, List.set_cons_succ, List.length_cons, List.length_nil, Bool.true_and, Bool.and_true, Bool.and_self, Bool.or_true, Bool.true_or, Bool.false_or, Bool.or_false, Bool.not_true, Bool.not_false, Bool.false_and, Bool.and_false, if_true, if_false, Bool.false_eq_true, reduceIte, reduceCtorEq, opSl_tup, opI, opSub, add_int]
                rw [add_tup (by simp only [List.length_append, List.length_singleton]; omega)]
                simp only [ev_var, ev_any, ev_c, ev_bin, ev_binF, ev_chain, ev_un, ev_cons, ev_nil, ev_tup, ev_disp, ev_lst, ev_glo, ev_callB, ev_callF, ev_call, ev_if, ev_sl, ev_oN, ev_oS, ev_rev, ev_isa, ev_tOf, ev_tAnd, ev_tOr, ev_tNot, ev_andV, ev_orV, ev_notV, ev_upper, ev_yes, ev_comp, wipeE, notOwn, List.all_cons, List.all_nil, ev_range1, ev_range2, ev_isq, ev_zip2, ev_zip3, ev_enum, optR_some, bind_ok, Sat_ok, Sat_bind, List.getElem?_cons_zero, List.getElem?_cons_succ, List.set_cons_zero, List.set_cons_succ, List.length_cons, List.length_nil, Bool.true_and, Bool.and_true, Bool.and_self, Bool.or_true, Bool.true_or, Bool.false_or, Bool.or_false, Bool.not_true, Bool.not_false, Bool.false_and, Bool.and_false, if_true, if_false, Bool.false_eq_true, reduceIte, reduceCtorEq]
                exact ⟨vd_tup (by simp only [List.length_append, List.length_singleton]; omega) (app (app (app (app (cel _ _) (one (el _ hm1'))) (cel _ _)) (one (el _ hm2'))) (cel _ _)), hp3.mono (by omega)⟩
              · simp only [decide_eq_false hgt, ev_var, ev_any, ev_c, ev_bin, ev_binF, ev_chain, ev_un, ev_cons, ev_nil, ev_tup, ev_disp, ev_lst, ev_glo, ev_callB, ev_callF, ev_call, ev_if, ev_sl, ev_oN, ev_oS, ev_rev, ev_isa, ev_tOf, ev_tAnd, ev_tOr, ev_tNot, ev_andV, ev_orV, ev_notV, ev_upper, ev_yes, ev_comp, wipeE, notOwn, List.all_cons, List.all_nil, ev_range1, ev_range2, ev_isq, ev_zip2, ev_zip3, ev_enum, optR_some, bind_ok, Sat_ok, Sat_bind, List.getElem?_cons_zero, List.getElem?_cons_succ, List.set_cons_zero, List.set_cons_succ, List.length_cons, List.length_nil, Bool.true_and, Bool.and_true, Bool.and_self, Bool.or_true, Bool.true_or, Bool.false_or, Bool.or_false, Bool.not_true, Bool.not_false, Bool.false_and, Bool.and_false, if_true, if_false, Bool.false_eq_true, reduceIte, reduceCtorEq]
                exact SatS.nil last
        simp only [ev_var, ev_any, ev_c, ev_bin, ev_binF, ev_chain, ev_un, ev_cons, ev_nil, ev_tup, ev_disp, ev_lst, ev_glo, ev_callB, ev_callF, ev_call, ev_if, ev_sl, ev_oN, ev_oS, ev_rev, ev_isa, ev_tOf, ev_tAnd, ev_tOr, ev_tNot, ev_andV, ev_orV, ev_notV, ev_upper, ev_yes, ev_comp, wipeE, notOwn, List.all_cons, List.all_nil, ev_range1, ev_range2, ev_isq, ev_zip2, ev_zip3, ev_enum, optR_some, bind_ok, Sat_ok, Sat_bind, List.getElem?_cons_zero, List.getElem?_cons_succ, List.set_cons_zero, List.set_cons_succ, List.length_cons, List.length_nil, Bool.true_and, Bool.and_true, Bool.and_self, Bool.or_true, Bool.true_or, Bool.false_or, Bool.or_false, Bool.not_true, Bool.not_false, Bool.false_and, Bool.and_false, if_true, if_false, Bool.false_eq_true, reduceIte, reduceCtorEq, opAdd, opSub, opMul, opDiv, opMod, opNeg, opI, opLt, opLe, opGt, opGe, opEq, opNe, opEq_int, opIs, opIsnot, opIsB, isNonP, opIx, opLen, opTuple, opList, opInt, opAbs, opStr, opSum, opMax, opMin, opMM, opAny, opAll, opAA, asSeq, asLst, top, frSeq, kdP, isa, id_eq, Option.map_some, Option.bind_some]
        cases hw2 : (w == 2) with
        | false =>
          simp only [ev_var, ev_any, ev_c, ev_bin, ev_binF, ev_chain, ev_un, ev_cons, ev_nil, ev_tup, ev_disp, ev_lst, ev_glo, ev_callB, ev_callF, ev_call, ev_if, ev_sl, ev_oN, ev_oS, ev_rev, ev_isa, ev_tOf, ev_tAnd, ev_tOr, ev_tNot, ev_andV, ev_orV, ev_notV, ev_upper, ev_yes, ev_comp, wipeE, notOwn, List.all_cons, List.all_nil, ev_range1, ev_range2, ev_isq, ev_zip2, ev_zip3, ev_enum, optR_some, bind_ok, Sat_ok, Sat_bind, List.getElem?_cons_zero, List.getElem?_cons_succ, List.set_cons_zero, List.set_cons_succ, List.length_cons, List.length_nil, Bool.true_and, Bool.and_true, Bool.and_self, Bool.or_true, Bool.true_or, Bool.false_or, Bool.or_false, Bool.not_true, Bool.not_false, Bool.false_and, Bool.and_false, if_true, if_false, Bool.false_eq_true, reduceIte, reduceCtorEq]
          exact SatS.nil ((rest g2 (B + 2) (by omega) hp2).imp (fun _ _ q => q.elim) fun _ _ q => q)
        | true =>
          simp only [ev_var, ev_any, ev_c, ev_bin, ev_binF, ev_chain, ev_un, ev_cons, ev_nil, ev_tup, ev_disp, ev_lst, ev_glo, ev_callB, ev_callF, ev_call, ev_if, ev_sl, ev_oN, ev_oS, ev_rev, ev_isa, ev_tOf, ev_tAnd, ev_tOr, ev_tNot, ev_andV, ev_orV, ev_notV, ev_upper, ev_yes, ev_comp, wipeE, notOwn, List.all_cons, List.all_nil, ev_range1, ev_range2, ev_isq, ev_zip2, ev_zip3, ev_enum, optR_some, bind_ok, Sat_ok, Sat_bind, List.getElem?_cons_zero, List.getElem?_cons_succ, List.set_cons_zero, List.set_cons_succ, List.length_cons, List.length_nil, Bool.true_and, Bool.and_true, Bool.and_self, Bool.or_true, Bool.true_or, Bool.false_or, Bool.or_false, Bool.not_true, Bool.not_false, Bool.false_and, Bool.and_false, if_true, if_false, Bool.false_eq_true, reduceIte, reduceCtorEq]
          refine (sat_draw hp2 (by omega) (by omega)).imp ?_
          rintro _ g3 ⟨z, rfl, z0, z1, hp3⟩
          simp only [ev_var, ev_any, ev_c, ev_bin, ev_binF, ev_chain, ev_un, ev_cons, ev_nil, ev_tup, ev_disp, ev_lst, ev_glo, ev_callB, ev_callF, ev_call, ev_if, ev_sl, ev_oN, ev_oS, ev_rev, ev_isa, ev_tOf, ev_tAnd, ev_tOr, ev_tNot, ev_andV, ev_orV, ev_notV, ev_upper, ev_yes, ev_comp, wipeE, notOwn, List.all_cons, List.all_nil, ev_range1, ev_range2, ev_isq, ev_zip2, ev_zip3, ev_enum, optR_some, bind_ok, Sat_ok, Sat_bind, List.getElem?_cons_zero, List.getElem?_cons_succ, List.set_cons_zero, List.set_cons_succ, List.length_cons, List.length_nil, Bool.true_and, Bool.and_true, Bool.and_self, Bool.or_true, Bool.true_or, Bool.false_or, Bool.or_false, Bool.not_true, Bool.not_false, Bool.false_and, Bool.and_false, if_true, if_false, Bool.false_eq_true, reduceIte, reduceCtorEq, opAdd, opSub, opMul, opDiv, opMod, opNeg, opI, opLt, opLe, opGt, opGe, opEq, opNe, opEq_int, opIs, opIsnot, opIsB, isNonP, opIx, opLen, opTuple, opList, opInt, opAbs, opStr, opSum, opMax, opMin, opMM, opAny, opAll, opAA, asSeq, asLst, top, frSeq, kdP, isa, id_eq, Option.map_some, Option.bind_some]
          cases hz0 : (z == 0) with
          | true =>
            refine SatS.ret ?_
            simp only [ev_var, ev_any, ev_c, ev_bin, ev_binF, ev_chain, ev_un, ev_cons, ev_nil, ev_tup, ev_disp, ev_lst, ev_glo, ev_callB, ev_callF, ev_call, ev_if, ev_sl, ev_oN, ev_oS, ev_rev, ev_isa, ev_tOf, ev_tAnd, ev_tOr, ev_tNot, ev_andV, ev_orV, ev_notV, ev_upper, ev_yes, ev_comp, wipeE, notOwn, List.all_cons, List.all_nil, ev_range1, ev_range2, ev_isq, ev_zip2, ev_zip3, ev_enum, optR_some, bind_ok, Sat_ok, Sat_bind, List.getElem?_cons_zero, List.getElem?_cons_succ, List.set_cons_zero, List.set_cons_succ, List.length_cons, List.length_nil, Bool.true_and, Bool.and_true, Bool.and_self, Bool.or_true, Bool.true_or, Bool.false_or, Bool.or_false, Bool.not_true, Bool.not_false, Bool.false_and, Bool.and_false, if_true, if_false, Bool.false_eq_true, reduceIte, reduceCtorEq, opAdd, opSub, opMul, opDiv, opMod, opNeg, opI, opLt, opLe, opGt, opGe, opEq, opNe, opEq_int, opIs, opIsnot, opIsB, isNonP, opIx, opLen, opTuple, opList, opInt, opAbs, opStr, opSum, opMax, opMin, opMM, opAny, opAll, opAA, asSeq, asLst, top, frSeq, kdP, isa, id_eq, Option.map_some, Option.bind_some]
            exact ⟨.inr ⟨xs, .inr rfl, by omega, fun x hx' => vd_mono (Nat.le_refl _) (Nat.le_refl _) (by omega) (el x hx')⟩, hp3.mono (by omega)⟩
          | false =>
            exact SatS.nil ((rest g3 (B + 3) (by omega) hp3).imp (fun _ _ q => q.elim) fun _ _ q => q)

theorem sat_bent : ∀ (d m : Nat) {b c : Nat} {v : PV} {p : PV} {g : G} {B : Nat}, b ≤ 24 → c ≤ 300 → d < m → Vd b c d v → Pool p g B → B ≤ 9000000 - 100 * d → d ≤ 100 → Sat (F_law_bent m [p, v] g) fun w g' => Vd (b + 16) (3 * c + 10) (d + 1) w ∧ Pool p g' (B + 4 * (d + 1)) := by
  -- what is no tuple, no text, no int
  have other : ∀ {d m b c : Nat} {v : PV} {p : PV} {g : G} {B : Nat}, (∃ x, v = .lst x) ∨ (∃ x, v = .bl x) ∨ v = .non → Pool p g B → B ≤ 9000000 → Sat (F_law_bent (m + 1) [p, v] g) fun w g' => Vd (b + 16) (3 * c + 10) (d + 1) w ∧ Pool p g' (B + 4 * (d + 1)) := by
    intro d m b c v p g B hv h hB
    have hd : dat v = true := by rcases hv with ⟨x, rfl⟩ | ⟨x, rfl⟩ | rfl <;> rfl
    have hk : (kindN v == 2) = false := by rcases hv with ⟨x, rfl⟩ | ⟨x, rfl⟩ | rfl <;> rfl
    have i1 : ∀ e : Q.Env, e[1]? = some (.val v) → eIsa .tuple (eVar 1) e g = .ok (.bl false) g := fun e he => by
      rw [ev_isa, ev_var, he]
      rcases hv with ⟨x, rfl⟩ | ⟨x, rfl⟩ | rfl <;> rfl
    have i2 : ∀ e : Q.Env, e[1]? = some (.val v) → eIsa .str (eVar 1) e g = .ok (.bl false) g := fun e he => by
      rw [ev_isa, ev_var, he]
      rcases hv with ⟨x, rfl⟩ | ⟨x, rfl⟩ | rfl <;> rfl
    refine satFn rfl ?_
    show SatS (B_law_bent (F_law_bent m) [.val p, .val v, .un, .un, .un, .un, .un] g) _ _
    refine SatS.seq (SatS.ite ?_)
    rw [ev_tOf, i1 _ rfl, bind_ok]
    show SatS (sNil _ g) _ _
    refine SatS.nil (SatS.seq (SatS.ite ?_))
    rw [ev_tOf, i2 _ rfl, bind_ok]
    show SatS (sNil _ g) _ _
    refine SatS.nil (SatS.seq (SatS.ite ?_))
    simp only [ev_var, ev_any, ev_c, ev_bin, ev_binF, ev_chain, ev_un, ev_cons, ev_nil, ev_tup, ev_disp, ev_lst, ev_glo, ev_callB, ev_callF, ev_call, ev_if, ev_sl, ev_oN, ev_oS, ev_rev, ev_isa, ev_tOf, ev_tAnd, ev_tOr, ev_tNot, ev_andV, ev_orV, ev_notV, ev_upper, ev_yes, ev_comp, wipeE, notOwn, List.all_cons, List.all_nil, ev_range1, ev_range2, ev_isq, ev_zip2, ev_zip3, ev_enum, optR_some, bind_ok, Sat_ok, Sat_bind, List.getElem?_cons_zero, List.getElem?_cons_succ, List.set_cons_zero, List.set_cons_succ, List.length_cons, List.length_nil, Bool.true_and, Bool.and_true, Bool.and_self, Bool.or_true, Bool.true_or, Bool.false_or, Bool.or_false, Bool.not_true, Bool.not_false, Bool.false_and, Bool.and_false, if_true, if_false, Bool.false_eq_true, reduceIte, reduceCtorEq]
    rw [kind_eq hd]
    simp only [ev_var, ev_any, ev_c, ev_bin, ev_binF, ev_chain, ev_un, ev_cons, ev_nil, ev_tup, ev_disp, ev_lst, ev_glo, ev_callB, ev_callF, ev_call, ev_if, ev_sl, ev_oN, ev_oS, ev_rev, ev_isa, ev_tOf, ev_tAnd, ev_tOr, ev_tNot, ev_andV, ev_orV, ev_notV, ev_upper, ev_yes, ev_comp, wipeE, notOwn, List.all_cons, List.all_nil, ev_range1, ev_range2, ev_isq, ev_zip2, ev_zip3, ev_enum, optR_some, bind_ok, Sat_ok, Sat_bind, List.getElem?_cons_zero, List.getElem?_cons_succ, List.set_cons_zero, List.set_cons_succ, List.length_cons, List.length_nil, Bool.true_and, Bool.and_true, Bool.and_self, Bool.or_true, Bool.true_or, Bool.false_or, Bool.or_false, Bool.not_true, Bool.not_false, Bool.false_and, Bool.and_false, if_true, if_false, Bool.false_eq_true, reduceIte, reduceCtorEq, opAdd, opSub, opMul, opDiv, opMod, opNeg, opI, opLt, opLe, opGt, opGe, opEq, opNe, opEq_int, opIs, opIsnot, opIsB, isNonP, opIx, opLen, opTuple, opList, opInt, opAbs, opStr, opSum, opMax, opMin, opMM, opAny, opAll, opAA, asSeq, asLst, top, frSeq, kdP, isa, id_eq, Option.map_some, Option.bind_some, hk]
    refine SatS.nil (SatS.ret ?_)
    simp only [ev_var, ev_any, ev_c, ev_bin, ev_binF, ev_chain, ev_un, ev_cons, ev_nil, ev_tup, ev_disp, ev_lst, ev_glo, ev_callB, ev_callF, ev_call, ev_if, ev_sl, ev_oN, ev_oS, ev_rev, ev_isa, ev_tOf, ev_tAnd, ev_tOr, ev_tNot, ev_andV, ev_orV, ev_notV, ev_upper, ev_yes, ev_comp, wipeE, notOwn, List.all_cons, List.all_nil, ev_range1, ev_range2, ev_isq, ev_zip2, ev_zip3, ev_enum, optR_some, bind_ok, Sat_ok, Sat_bind, List.getElem?_cons_zero, List.getElem?_cons_succ, List.set_cons_zero, List.set_cons_succ, List.length_cons, List.length_nil, Bool.true_and, Bool.and_true, Bool.and_self, Bool.or_true, Bool.true_or, Bool.false_or, Bool.or_false, Bool.not_true, Bool.not_false, Bool.false_and, Bool.and_false, if_true, if_false, Bool.false_eq_true, reduceIte, reduceCtorEq, fits1000 (show 0 ≤ 1000000 by omega), fits1000 (show 4 ≤ 1000000 by omega)]
    refine (sat_pick (l := [.int 0, .tup [], .bl false, .str "x"]) (W := fun w => Vd (b + 16) (3 * c + 10) (d + 1) w) rfl (by simp) h (by omega) ?_).imp ?_
    · intro w hw
      simp only [List.mem_cons, List.not_mem_nil, or_false] at hw
      rcases hw with rfl | rfl | rfl | rfl
      · exact vd_zero
      · exact vd_tup (by show 0 ≤ _; omega) (by simp)
      · exact fl_vd (v := .bl false) trivial _
      · refine fl_vd (v := .str _) ?_ _
        show (("x" : Str)).length ≤ _
        have : (("x" : Str)).length = 1 := by decide
        omega
    · rintro _ g' ⟨i, u, rfl, hu, hW, hp⟩
      rw [ix_lst, hu]
      simp only [ev_var, ev_any, ev_c, ev_bin, ev_binF, ev_chain, ev_un, ev_cons, ev_nil, ev_tup, ev_disp, ev_lst, ev_glo, ev_callB, ev_callF, ev_call, ev_if, ev_sl, ev_oN, ev_oS, ev_rev, ev_isa, ev_tOf, ev_tAnd, ev_tOr, ev_tNot, ev_andV, ev_orV, ev_notV, ev_upper, ev_yes, ev_comp, wipeE, notOwn, List.all_cons, List.all_nil, ev_range1, ev_range2, ev_isq, ev_zip2, ev_zip3, ev_enum, optR_some, bind_ok, Sat_ok, Sat_bind, List.getElem?_cons_zero, List.getElem?_cons_succ, List.set_cons_zero, List.set_cons_succ, List.length_cons, List.length_nil, Bool.true_and, Bool.and_true, Bool.and_self, Bool.or_true, Bool.true_or, Bool.false_or, Bool.or_false, Bool.not_true, Bool.not_false, Bool.false_and, Bool.and_false, if_true, if_false, Bool.false_eq_true, reduceIte, reduceCtorEq]
      exact ⟨hW, hp.mono (by omega)⟩
  have flt : ∀ {d m b c : Nat} {v : PV} {p : PV} {g : G} {B : Nat}, b ≤ 24 → c ≤ 300 → fl b c v → Pool p g B → B ≤ 9000000 → Sat (F_law_bent (m + 1) [p, v] g) fun w g' => Vd (b + 16) (3 * c + 10) (d + 1) w ∧ Pool p g' (B + 4 * (d + 1)) := by
    intro d m b c v p g B hb hc hv h hB
    cases v with
    | int i => exact (sat_bent_int hb hc hv h (by omega)).imp fun w g' q => ⟨q.1, q.2.mono (by omega)⟩
    | str s => exact (sat_bent_str hb hc hv h (by omega)).imp fun w g' q => ⟨q.1, q.2.mono (by omega)⟩
    | bl x => exact other (.inr (.inl ⟨x, rfl⟩)) h hB
    | non => exact other (.inr (.inr rfl)) h hB
    | _ => exact hv.elim
  intro d
  induction d with
  | zero =>
    intro m b c v p g B hb hc hm hv h hB _
    obtain ⟨m, rfl⟩ : ∃ k, m = k + 1 := ⟨m - 1, by omega⟩
    exact flt hb hc hv h (by omega)
  | succ d ih =>
    intro m b c v p g B hb hc hm hv h hB hd
    obtain ⟨m, rfl⟩ : ∃ k, m = k + 1 := ⟨m - 1, by omega⟩
    rcases hv with hv | ⟨xs, rfl | rfl, hl, hx⟩
    · exact flt hb hc hv h (by omega)
    · exact sat_bent_tup hb hc hl hx h (by omega) fun x hx' g' C hp hC => ih m hb hc (by omega) (hx x hx') hp (by omega) (by omega)
    · exact other (.inl ⟨xs, rfl⟩) h (by omega)
theorem sat_bends {v : PV} {p : PV} {g : G} {B : Nat} (hv : Vd 4 10 1 v) (h : Pool p g B) (hB : B ≤ 1000000) : Sat (F_law_bends [p, v, .int 10] g) fun w g' => ∃ l, w = .lst l ∧ l.length ≤ 100 ∧ (∀ x ∈ l, dat2 x) ∧ Pool p g' (B + 1000) := by
  have up : ∀ {x : PV}, Vd 4 10 1 x → Vd 36 130 3 x := fun h => vd_mono (by omega) (by omega) (by omega) h
  refine satFn rfl ?_
  show SatS (B_law_bends [.val p, .val v, .val (.int 10), .un, .un, .un] g) _ _
  refine SatS.seq (SatS.own ?_)
  simp only [ev_var, ev_any, ev_c, ev_bin, ev_binF, ev_chain, ev_un, ev_cons, ev_nil, ev_tup, ev_disp, ev_lst, ev_glo, ev_callB, ev_callF, ev_call, ev_if, ev_sl, ev_oN, ev_oS, ev_rev, ev_isa, ev_tOf, ev_tAnd, ev_tOr, ev_tNot, ev_andV, ev_orV, ev_notV, ev_upper, ev_yes, ev_comp, wipeE, notOwn, List.all_cons, List.all_nil, ev_range1, ev_range2, ev_isq, ev_zip2, ev_zip3, ev_enum, optR_some, bind_ok, Sat_ok, Sat_bind, List.getElem?_cons_zero, List.getElem?_cons_succ, List.set_cons_zero, List.set_cons_succ, List.length_cons, List.length_nil, Bool.true_and, Bool.and_true, Bool.and_self, Bool.or_true, Bool.true_or, Bool.false_or, Bool.or_false, Bool.not_true, Bool.not_false, Bool.false_and, Bool.and_false, if_true, if_false, Bool.false_eq_true, reduceIte, reduceCtorEq, fits1000 (show 1 ≤ 1000000 by omega)]
  refine SatS.seq (SatS.for_ ?_)
  simp only [ev_var, ev_any, ev_c, ev_bin, ev_binF, ev_chain, ev_un, ev_cons, ev_nil, ev_tup, ev_disp, ev_lst, ev_glo, ev_callB, ev_callF, ev_call, ev_if, ev_sl, ev_oN, ev_oS, ev_rev, ev_isa, ev_tOf, ev_tAnd, ev_tOr, ev_tNot, ev_andV, ev_orV, ev_notV, ev_upper, ev_yes, ev_comp, wipeE, notOwn, List.all_cons, List.all_nil, ev_range1, ev_range2, ev_isq, ev_zip2, ev_zip3, ev_enum, optR_some, bind_ok, Sat_ok, Sat_bind, List.getElem?_cons_zero, List.getElem?_cons_succ, List.set_cons_zero, List.set_cons_succ, List.length_cons, List.length_nil, Bool.true_and, Bool.and_true, Bool.and_self, Bool.or_true, Bool.true_or, Bool.false_or, Bool.or_false, Bool.not_true, Bool.not_false, Bool.false_and, Bool.and_false, if_true, if_false, Bool.false_eq_true, reduceIte, reduceCtorEq, rg1 (show (0 : Int) ≤ 10 by omega), rg2 (show (10 : Int) ≤ 1000000 by omega)]
  refine sat_for (fun k e g' => ∃ (l : List PV) (s4 s5 : SV), l.length = 1 + k ∧ (∀ x ∈ l, Vd 36 130 3 x) ∧ Pool p g' (B + 50 * k) ∧ e = [.val p, .val v, .val (.int 10), .own (.lst l), s4, s5]) ?_ ?_ ⟨[v], _, _, rfl, fun x hx => by rw [List.mem_singleton.mp hx]; exact up hv, h, rfl⟩
  · rintro k x e g' hx ⟨l, s4, s5, hl, hb, hp, rfl⟩
    obtain ⟨rfl, hk, _⟩ := range_at hx
    refine ⟨_, rfl, SatS.seq (SatS.set ?_)⟩
    simp only [ev_var, ev_any, ev_c, ev_bin, ev_binF, ev_chain, ev_un, ev_cons, ev_nil, ev_tup, ev_disp, ev_lst, ev_glo, ev_callB, ev_callF, ev_call, ev_if, ev_sl, ev_oN, ev_oS, ev_rev, ev_isa, ev_tOf, ev_tAnd, ev_tOr, ev_tNot, ev_andV, ev_orV, ev_notV, ev_upper, ev_yes, ev_comp, wipeE, notOwn, List.all_cons, List.all_nil, ev_range1, ev_range2, ev_isq, ev_zip2, ev_zip3, ev_enum, optR_some, bind_ok, Sat_ok, Sat_bind, List.getElem?_cons_zero, List.getElem?_cons_succ, List.set_cons_zero, List.set_cons_succ, List.length_cons, List.length_nil, Bool.true_and, Bool.and_true, Bool.and_self, Bool.or_true, Bool.true_or, Bool.false_or, Bool.or_false, Bool.not_true, Bool.not_false, Bool.false_and, Bool.and_false, if_true, if_false, Bool.false_eq_true, reduceIte, reduceCtorEq]
    refine (sat_bent 1 6 (b := 4) (c := 10) (by omega) (by omega) (by omega) hv hp (by omega) (by omega)).imp ?_
    rintro w g1 ⟨hw, hp1⟩
    have fin : ∀ (w : PV) (g2 : G), Vd 36 130 3 w → Pool p g2 (B + 50 * (k + 1)) → SatS (sAppend 3 (eVar 5) [.val p, .val v, .val (.int 10), .own (.lst l), .val (.int (k : Int)), .val w] g2) (fun e g' => ∃ (l : List PV) (s4 s5 : SV), l.length = 1 + (k + 1) ∧ (∀ x ∈ l, Vd 36 130 3 x) ∧ Pool p g' (B + 50 * (k + 1)) ∧ e = [.val p, .val v, .val (.int 10), .own (.lst l), s4, s5]) (fun w g' => ∃ l, w = .lst l ∧ l.length ≤ 100 ∧ (∀ x ∈ l, dat2 x) ∧ Pool p g' (B + 1000)) := by
      intro w g2 hw hp2
      refine SatS.append rfl ?_
      simp only [ev_var, ev_any, ev_c, ev_bin, ev_binF, ev_chain, ev_un, ev_cons, ev_nil, ev_tup, ev_disp, ev_lst, ev_glo, ev_callB, ev_callF, ev_call, ev_if, ev_sl, ev_oN, ev_oS, ev_rev, ev_isa, ev_tOf, ev_tAnd, ev_tOr, ev_tNot, ev_andV, ev_orV, ev_notV, ev_upper, ev_yes, ev_comp, wipeE, notOwn, List.all_cons, List.all_nil, ev_range1, ev_range2, ev_isq, ev_zip2, ev_zip3, ev_enum, optR_some, bind_ok, Sat_ok, Sat_bind, List.getElem?_cons_zero, List.getElem?_cons_succ, List.set_cons_zero, List.set_cons_succ, List.length_cons, List.length_nil, Bool.true_and, Bool.and_true, Bool.and_self, Bool.or_true, Bool.true_or, Bool.false_or, Bool.or_false, Bool.not_true, Bool.not_false, Bool.false_and, Bool.and_false, if_true, if_false, Bool.false_eq_true, reduceIte, reduceCtorEq]
      refine ⟨fits1000 (by omega), l ++ [w], _, _, by rw [List.length_append, List.length_singleton]; omega, ?_, hp2, rfl⟩
      intro x hx
      rcases List.mem_append.mp hx with hx | hx
      · exact hb x hx
      · rw [List.mem_singleton.mp hx]; exact hw
    refine SatS.seq (SatS.ite ?_)
    simp only [ev_var, ev_any, ev_c, ev_bin, ev_binF, ev_chain, ev_un, ev_cons, ev_nil, ev_tup, ev_disp, ev_lst, ev_glo, ev_callB, ev_callF, ev_call, ev_if, ev_sl, ev_oN, ev_oS, ev_rev, ev_isa, ev_tOf, ev_tAnd, ev_tOr, ev_tNot, ev_andV, ev_orV, ev_notV, ev_upper, ev_yes, ev_comp, wipeE, notOwn, List.all_cons, List.all_nil, ev_range1, ev_range2, ev_isq, ev_zip2, ev_zip3, ev_enum, optR_some, bind_ok, Sat_ok, Sat_bind, List.getElem?_cons_zero, List.getElem?_cons_succ, List.set_cons_zero, List.set_cons_succ, List.length_cons, List.length_nil, Bool.true_and, Bool.and_true, Bool.and_self, Bool.or_true, Bool.true_or, Bool.false_or, Bool.or_false, Bool.not_true, Bool.not_false, Bool.false_and, Bool.and_false, if_true, if_false, Bool.false_eq_true, reduceIte, reduceCtorEq]
    refine (sat_draw hp1 (by omega) (by omega)).imp ?_
    rintro _ g2 ⟨z, rfl, z0, z1, hp2⟩
    simp only [ev_var, ev_any, ev_c, ev_bin, ev_binF, ev_chain, ev_un, ev_cons, ev_nil, ev_tup, ev_disp, ev_lst, ev_glo, ev_callB, ev_callF, ev_call, ev_if, ev_sl, ev_oN, ev_oS, ev_rev, ev_isa, ev_tOf, ev_tAnd, ev_tOr, ev_tNot, ev_andV, ev_orV, ev_notV, ev_upper, ev_yes, ev_comp, wipeE, notOwn, List.all_cons, List.all_nil, ev_range1, ev_range2, ev_isq, ev_zip2, ev_zip3, ev_enum, optR_some, bind_ok, Sat_ok, Sat_bind, List.getElem?_cons_zero, List.getElem?_cons_succ, List.set_cons_zero, List.set_cons_succ, List.length_cons, List.length_nil, Bool.true_and, Bool.and_true, Bool.and_self, Bool.or_true, Bool.true_or, Bool.false_or, Bool.or_false, Bool.not_true, Bool.not_false, Bool.false_and, Bool.and_false, if_true, if_false, Bool.false_eq_true, reduceIte, reduceCtorEq, opAdd, opSub, opMul, opDiv, opMod, opNeg, opI, opLt, opLe, opGt, opGe, opEq, opNe, opEq_int, opIs, opIsnot, opIsB, isNonP, opIx, opLen, opTuple, opList, opInt, opAbs, opStr, opSum, opMax, opMin, opMM, opAny, opAll, opAA, asSeq, asLst, top, frSeq, kdP, isa, id_eq, Option.map_some, Option.bind_some]
    cases hz : (z == 0) with
    | false =>
      exact SatS.nil (fin w g2 (vd_mono (by omega) (by omega) (by omega) hw) (hp2.mono (by omega)))
    | true =>
      refine SatS.set ?_
      simp only [ev_var, ev_any, ev_c, ev_bin, ev_binF, ev_chain, ev_un, ev_cons, ev_nil, ev_tup, ev_disp, ev_lst, ev_glo, ev_callB, ev_callF, ev_call, ev_if, ev_sl, ev_oN, ev_oS, ev_rev, ev_isa, ev_tOf, ev_tAnd, ev_tOr, ev_tNot, ev_andV, ev_orV, ev_notV, ev_upper, ev_yes, ev_comp, wipeE, notOwn, List.all_cons, List.all_nil, ev_range1, ev_range2, ev_isq, ev_zip2, ev_zip3, ev_enum, optR_some, bind_ok, Sat_ok, Sat_bind, List.getElem?_cons_zero, List.getElem?_cons_succ, List.set_cons_zero, List.set_cons_succ, List.length_cons, List.length_nil, Bool.true_and, Bool.and_true, Bool.and_self, Bool.or_true, Bool.true_or, Bool.false_or, Bool.or_false, Bool.not_true, Bool.not_false, Bool.false_and, Bool.and_false, if_true, if_false, Bool.false_eq_true, reduceIte, reduceCtorEq]
      refine (sat_bent 2 6 (b := 20) (c := 40) (by omega) (by omega) (by omega) hw hp2 (by omega) (by omega)).imp ?_
      rintro w2 g3 ⟨hw2, hp3⟩
      exact fin w2 g3 hw2 (hp3.mono (by omega))
  · rintro e g' ⟨l, s4, s5, hl, hb, hp, rfl⟩
    have hl : l.length = 11 := by rw [hl, rangeL_len]; rfl
    have hp : Pool p g' (B + 1000) := hp.mono (by rw [rangeL_len]; show B + 50 * 10 ≤ _; omega)
    refine SatS.ret ?_
    simp only [ev_var, ev_any, ev_c, ev_bin, ev_binF, ev_chain, ev_un, ev_cons, ev_nil, ev_tup, ev_disp, ev_lst, ev_glo, ev_callB, ev_callF, ev_call, ev_if, ev_sl, ev_oN, ev_oS, ev_rev, ev_isa, ev_tOf, ev_tAnd, ev_tOr, ev_tNot, ev_andV, ev_orV, ev_notV, ev_upper, ev_yes, ev_comp, wipeE, notOwn, List.all_cons, List.all_nil, ev_range1, ev_range2, ev_isq, ev_zip2, ev_zip3, ev_enum, optR_some, bind_ok, Sat_ok, Sat_bind, List.getElem?_cons_zero, List.getElem?_cons_succ, List.set_cons_zero, List.set_cons_succ, List.length_cons, List.length_nil, Bool.true_and, Bool.and_true, Bool.and_self, Bool.or_true, Bool.true_or, Bool.false_or, Bool.or_false, Bool.not_true, Bool.not_false, Bool.false_and, Bool.and_false, if_true, if_false, Bool.false_eq_true, reduceIte, reduceCtorEq, fits1000 (show 0 ≤ 1000000 by omega), fits1000 (show 1 ≤ 1000000 by omega), fits1000 (show 2 ≤ 1000000 by omega), fits1000 (show 10 ≤ 1000000 by omega)]
    have hadd : opAdd [.val p, .val v, .val (.int 10), .own (.lst l), s4, s5] g' (.bor 3) (.lst [.non, .int 0, .bl true, .str "", .tup [], .lst [], .str "x", .tup [.int 0], .tup [.str "x", .int 1], v]) = some (.lst (l ++ [.non, .int 0, .bl true, .str "", .tup [], .lst [], .str "x", .tup [.int 0], .tup [.str "x", .int 1], v])) := by
      show (if fits (l.length + 10) then some (PV.lst (l ++ [.non, .int 0, .bl true, .str "", .tup [], .lst [], .str "x", .tup [.int 0], .tup [.str "x", .int 1], v])) else none) = _
      rw [fits1000 (by omega)]; rfl
    rw [hadd]
    simp only [ev_var, ev_any, ev_c, ev_bin, ev_binF, ev_chain, ev_un, ev_cons, ev_nil, ev_tup, ev_disp, ev_lst, ev_glo, ev_callB, ev_callF, ev_call, ev_if, ev_sl, ev_oN, ev_oS, ev_rev, ev_isa, ev_tOf, ev_tAnd, ev_tOr, ev_tNot, ev_andV, ev_orV, ev_notV, ev_upper, ev_yes, ev_comp, wipeE, notOwn, List.all_cons, List.all_nil, ev_range1, ev_range2, ev_isq, ev_zip2, ev_zip3, ev_enum, optR_some, bind_ok, Sat_ok, Sat_bind, List.getElem?_cons_zero, List.getElem?_cons_succ, List.set_cons_zero, List.set_cons_succ, List.length_cons, List.length_nil, Bool.true_and, Bool.and_true, Bool.and_self, Bool.or_true, Bool.true_or, Bool.false_or, Bool.or_false, Bool.not_true, Bool.not_false, Bool.false_and, Bool.and_false, if_true, if_false, Bool.false_eq_true, reduceIte, reduceCtorEq]
    refine ⟨_, rfl, by rw [List.length_append, hl]; simp, ?_, hp⟩
    intro x hx
    rcases List.mem_append.mp hx with hx | hx
    · exact vd_dat2 (by omega) (hb x hx)
    · have nt : ∀ {y : PV}, dat y = true → (∀ xs, y ≠ .tup xs) → dat2 y := fun h1 h2 => ⟨h1, fun xs e => absurd e (h2 xs)⟩
      simp only [List.mem_cons, List.not_mem_nil, or_false] at hx
      rcases hx with rfl | rfl | rfl | rfl | rfl | rfl | rfl | rfl | rfl | rfl
      · exact nt rfl fun _ z => by cases z
      · exact nt rfl fun _ z => by cases z
      · exact nt rfl fun _ z => by cases z
      · exact nt rfl fun _ z => by cases z
      · exact ⟨rfl, fun xs e => by cases e; exact ⟨by show 0 ≤ _; omega, by simp⟩⟩
      · exact nt rfl fun _ z => by cases z
      · exact nt rfl fun _ z => by cases z
      · exact ⟨rfl, fun xs e => by cases e; exact ⟨by show 1 ≤ _; omega, by simp [dat]⟩⟩
      · exact ⟨rfl, fun xs e => by cases e; exact ⟨by show 2 ≤ _; omega, by simp [dat]⟩⟩
      · exact vd_dat2 (by omega) (up hv)

/-! ## any order of a step -/
def dAt (ds : List (List Int × List Int)) (k : Nat) : List Int × List Int := ds.getD k ([], [])
/-- what a row takes (or gives) of a place -/
def sumR (F : Nat → Int) (l : List Nat) : Int := (l.map F).sum
theorem sumR_perm {F : Nat → Int} {l l' : List Nat} (h : l.Perm l') : sumR F l = sumR F l' := by
  unfold sumR
  induction h with
  | nil => rfl
  | cons x _ ih => rw [List.map_cons, List.map_cons, List.sum_cons, List.sum_cons, ih]
  | swap x y l => simp only [List.map_cons, List.sum_cons]; omega
  | trans _ _ h1 h2 => rw [h1, h2]
theorem sumR_nn {F : Nat → Int} (h : ∀ k, 0 ≤ F k) : ∀ l, 0 ≤ sumR F l
  | [] => by unfold sumR; simp
  | k :: l => by
    have h1 := sumR_nn h l
    have h2 := h k
    unfold sumR at h1 ⊢
    rw [List.map_cons, List.sum_cons]; omega
theorem getD_of {l : List Int} {p : Nat} {x : Int} (h : l[p]? = some x) : l.getD p 0 = x := by rw [List.getD_eq_getElem?_getD, h]; rfl
theorem getD_some {l : List Int} {p : Nat} (h : p < l.length) : l[p]? = some (l.getD p 0) := by
  rw [List.getD_eq_getElem?_getD, List.getElem?_eq_getElem h]; rfl
theorem ext_getD {n : Nat} {a b : List Int} (ha : a.length = n) (hb : b.length = n) (h : ∀ p, p < n → a.getD p 0 = b.getD p 0) : a = b := by
  apply List.ext_getElem?
  intro p
  by_cases hp : p < n
  · rw [getD_some (by omega), getD_some (by omega), h p hp]
  · rw [List.getElem?_eq_none (by omega), List.getElem?_eq_none (by omega)]
theorem leB_getD {n : Nat} {a b : List Int} (ha : a.length = n) (hb : b.length = n) : leB a b = true ↔ ∀ p, p < n → a.getD p 0 ≤ b.getD p 0 := by
  rw [leB_iff]
  constructor
  · intro h p hp
    exact h p _ _ (getD_some (by omega)) (getD_some (by omega))
  · intro h p x y hx hy
    have hp : p < n := by rw [← ha]; exact (List.getElem?_eq_some_iff.mp hx).1
    have := h p hp
    rw [getD_of hx, getD_of hy] at this
    exact this
theorem stepL_getD {n : Nat} {a b c : List Int} (ha : a.length = n) (hb : b.length = n) (hc : c.length = n) {p : Nat} (hp : p < n) : (stepL a b c).getD p 0 = a.getD p 0 - b.getD p 0 + c.getD p 0 := by
  apply getD_of
  unfold stepL
  rw [List.getElem?_map]
  have e3 : (a.zip (b.zip c))[p]? = some (a.getD p 0, b.getD p 0, c.getD p 0) := by
    rw [List.getElem?_zip_eq_some]
    exact ⟨getD_some (by omega), List.getElem?_zip_eq_some.mpr ⟨getD_some (by omega), getD_some (by omega)⟩⟩
  rw [e3]; rfl
theorem addL_getD {n : Nat} {a b : List Int} (ha : a.length = n) (hb : b.length = n) {p : Nat} (hp : p < n) : (addL a b).getD p 0 = a.getD p 0 + b.getD p 0 := by
  apply getD_of
  unfold addL
  rw [List.getElem?_map]
  have e3 : (a.zip b)[p]? = some (a.getD p 0, b.getD p 0) := List.getElem?_zip_eq_some.mpr ⟨getD_some (by omega), getD_some (by omega)⟩
  rw [e3]; rfl
theorem mulL_getD {n : Nat} {m : Int} {a : List Int} (ha : a.length = n) {p : Nat} (hp : p < n) : (mulL m a).getD p 0 = m * a.getD p 0 := by
  apply getD_of
  unfold mulL
  rw [List.getElem?_map, getD_some (by omega)]; rfl
section
variable {n : Nat} {ds : List (List Int × List Int)}
theorem dAt_mem {k : Nat} (h : k < ds.length) : dAt ds k ∈ ds ∧ ds[k]? = some (dAt ds k) := by
  unfold dAt
  rw [List.getD_eq_getElem?_getD, List.getElem?_eq_getElem h]
  exact ⟨List.getElem_mem h, rfl⟩
/-- where there is enough for all, the row can be done -/
theorem run_row (N : NetOk n ds) : ∀ (l : List Nat) (mk : List Int), (∀ k ∈ l, k < ds.length) → mk.length = n → (∀ p, p < n → sumR (fun k => (dAt ds k).1.getD p 0) l ≤ mk.getD p 0) →
    ∃ mk', runL ds mk l = some mk' ∧ mk'.length = n ∧ ∀ p, p < n → mk'.getD p 0 = mk.getD p 0 - sumR (fun k => (dAt ds k).1.getD p 0) l + sumR (fun k => (dAt ds k).2.getD p 0) l
  | [], mk, _, hm, _ => ⟨mk, rfl, hm, fun p _ => by unfold sumR; simp⟩
  | k :: l, mk, hk, hm, he => by
    have hkl := hk k (by simp)
    obtain ⟨d1, d2⟩ := dAt_mem hkl
    have z1 := N.d1 _ d1
    have z2 := N.d2 _ d1
    have nn1 : ∀ (p : Nat) (j : Nat), 0 ≤ (if j < ds.length then (dAt ds j).1.getD p 0 else 0) := fun p j => by
      split
      · rename_i hj
        by_cases hp : p < n
        · have := (N.d1 _ (dAt_mem hj).1)
          exact (this.nn _ (List.mem_of_getElem? (getD_some (show p < (dAt ds j).1.length by rw [this.len]; exact hp)))).1
        · have := (N.d1 _ (dAt_mem hj).1).len
          rw [List.getD_eq_getElem?_getD, List.getElem?_eq_none (by omega)]; exact Int.le_refl _
      · exact Int.le_refl _
    have same : ∀ p, sumR (fun k => (dAt ds k).1.getD p 0) l = sumR (fun j => if j < ds.length then (dAt ds j).1.getD p 0 else 0) l := fun p => by
      unfold sumR
      congr 1
      exact List.map_congr_left fun j hj => by rw [if_pos (hk j (List.mem_cons_of_mem _ hj))]
    have rest : ∀ p, 0 ≤ sumR (fun k => (dAt ds k).1.getD p 0) l := fun p => by rw [same p]; exact sumR_nn (nn1 p) l
    have cons : ∀ (F : Nat → Int), sumR F (k :: l) = F k + sumR F l := fun F => by unfold sumR; rw [List.map_cons, List.sum_cons]
    have hle : leB (dAt ds k).1 mk = true := (leB_getD z1.len hm).mpr fun p hp => by
      have h1 := he p hp
      rw [cons] at h1
      have h2 := rest p
      have h1 : (dAt ds k).1.getD p 0 + sumR (fun k => (dAt ds k).1.getD p 0) l ≤ mk.getD p 0 := h1
      omega
    have hdone : doneL ds mk k = some (stepL mk (dAt ds k).1 (dAt ds k).2) := by
      unfold doneL
      rw [d2]
      show (if leB (dAt ds k).1 mk = true then _ else none) = _
      rw [if_pos hle]
    obtain ⟨mk', h1, h2, h3⟩ := run_row N l (stepL mk (dAt ds k).1 (dAt ds k).2) (fun j hj => hk j (List.mem_cons_of_mem _ hj)) (stepL_len hm z1.len z2.len) fun p hp => by
      rw [stepL_getD hm z1.len z2.len hp]
      have h1 := he p hp
      rw [cons] at h1
      have h1 : (dAt ds k).1.getD p 0 + sumR (fun k => (dAt ds k).1.getD p 0) l ≤ mk.getD p 0 := h1
      have h4 := (z2.nn _ (List.mem_of_getElem? (getD_some (show p < (dAt ds k).2.length by rw [z2.len]; exact hp)))).1
      omega
    refine ⟨mk', ?_, h2, fun p hp => ?_⟩
    · unfold runL at h1 ⊢
      rw [List.foldl_cons]
      show List.foldl _ (doneL ds mk k) l = _
      rw [hdone]; exact h1
    · rw [h3 p hp, stepL_getD hm z1.len z2.len hp, cons, cons]
      show mk.getD p 0 - (dAt ds k).1.getD p 0 + (dAt ds k).2.getD p 0 - _ + _ = mk.getD p 0 - ((dAt ds k).1.getD p 0 + _) + ((dAt ds k).2.getD p 0 + _)
      omega
/-- the row of a step -/
def rowL (step : List Int) (m : Nat) : List Nat := (List.range m).flatMap fun k => List.replicate (step.getD k 0).toNat k
theorem rowL_succ (step : List Int) (m : Nat) : rowL step (m + 1) = rowL step m ++ List.replicate (step.getD m 0).toNat m := by
  unfold rowL
  rw [List.range_succ, List.flatMap_append, List.flatMap_cons, List.flatMap_nil, List.append_nil]
theorem rowL_mem {step : List Int} {m k : Nat} (h : k ∈ rowL step m) : k < m := by
  unfold rowL at h
  obtain ⟨j, hj, hk⟩ := List.mem_flatMap.mp h
  rw [(List.mem_replicate.mp hk).2]
  exact List.mem_range.mp hj
theorem rowL_len {step : List Int} (h : ∀ x ∈ step, 0 ≤ x ∧ x ≤ 2) : ∀ m, (rowL step m).length ≤ 2 * m
  | 0 => by simp [rowL]
  | m + 1 => by
    rw [rowL_succ, List.length_append, List.length_replicate]
    have h1 := rowL_len h m
    have h2 : (step.getD m 0).toNat ≤ 2 := by
      by_cases hm : m < step.length
      · have := h _ (List.mem_of_getElem? (getD_some hm)); omega
      · rw [List.getD_eq_getElem?_getD, List.getElem?_eq_none (by omega)]; decide
    omega
theorem sumR_app (F : Nat → Int) (a b : List Nat) : sumR F (a ++ b) = sumR F a + sumR F b := by
  unfold sumR
  rw [List.map_append, List.sum_append]
theorem sumR_rep (F : Nat → Int) (k : Nat) : ∀ c, sumR F (List.replicate c k) = c * F k
  | 0 => by unfold sumR; simp
  | c + 1 => by
    have := sumR_rep F k c
    unfold sumR at this ⊢
    rw [List.replicate_succ, List.map_cons, List.sum_cons, this]
    have : ((c + 1 : Nat) : Int) = (c : Int) + 1 := by omega
    rw [this, Int.add_mul, Int.one_mul, Int.add_comm]
/-- the sums of a step and of its row are the same -/
theorem taken_row {f : List Int × List Int → List Int} (hf : ∀ d ∈ ds, (f d).length = n) (step : List Int) (hs : step.length = ds.length) (hp : ∀ x ∈ step, 0 ≤ x) {p : Nat} (h : p < n) :
    (takenL f n step ds).getD p 0 = sumR (fun k => (f (dAt ds k)).getD p 0) (rowL step ds.length) := by
  have key : ∀ m, m ≤ ds.length → ((((step.zip ds).take m).foldl (fun acc q => addL acc (mulL q.1 (f q.2))) (List.replicate n 0)).getD p 0 = sumR (fun k => (f (dAt ds k)).getD p 0) (rowL step m) ∧ (((step.zip ds).take m).foldl (fun acc q => addL acc (mulL q.1 (f q.2))) (List.replicate n 0)).length = n) := by
    intro m
    induction m with
    | zero =>
      intro _
      refine ⟨?_, List.length_replicate⟩
      show (List.replicate n (0 : Int)).getD p 0 = 0
      rw [List.getD_eq_getElem?_getD, List.getElem?_replicate]
      split <;> rfl
    | succ m ih =>
      intro hm
      obtain ⟨h1, h2⟩ := ih (by omega)
      obtain ⟨d1, d2⟩ := dAt_mem (ds := ds) (show m < ds.length by omega)
      have hz : (step.zip ds)[m]? = some (step.getD m 0, dAt ds m) := List.getElem?_zip_eq_some.mpr ⟨getD_some (by omega), d2⟩
      have hn := hp _ (List.mem_of_getElem? (getD_some (show m < step.length by omega)))
      rw [take_succ_some hz, List.foldl_append]
      show (addL _ (mulL (step.getD m 0) (f (dAt ds m)))).getD p 0 = _ ∧ (addL _ (mulL (step.getD m 0) (f (dAt ds m)))).length = n
      have hl : (mulL (step.getD m 0) (f (dAt ds m))).length = n := by rw [mulL_len]; exact hf _ d1
      refine ⟨?_, by rw [addL_len (by rw [h2, hl])]; exact h2⟩
      rw [addL_getD h2 hl h, mulL_getD (hf _ d1) h, h1, rowL_succ, sumR_app, sumR_rep]
      have : (((step.getD m 0).toNat : Nat) : Int) = step.getD m 0 := by omega
      rw [this]
  have := (key ds.length (Nat.le_refl _)).1
  rw [List.take_of_length_le (by rw [List.length_zip]; omega)] at this
  exact this
/-- a step that can be done, in any order of its deeds -/
theorem any_order (N : NetOk n ds) {mk step : List Int} (hm : mk.length = n) (hs : step.length = ds.length) (hp : ∀ x ∈ step, 0 ≤ x) (hok : leB (takenL (·.1) n step ds) mk = true) {l : List Nat} (hl : l.Perm (rowL step ds.length)) :
    runL ds mk l = some (stepL mk (takenL (·.1) n step ds) (takenL (·.2) n step ds)) := by
  have f1 : ∀ d ∈ ds, d.1.length = n := fun d hd => (N.d1 d hd).len
  have f2 : ∀ d ∈ ds, d.2.length = n := fun d hd => (N.d2 d hd).len
  have t1 := takenL_len (f := (·.1)) f1 step
  have t2 := takenL_len (f := (·.2)) f2 step
  have e1 : ∀ p, p < n → (takenL (·.1) n step ds).getD p 0 = sumR (fun k => (dAt ds k).1.getD p 0) l := fun p h => by rw [taken_row (f := (·.1)) f1 step hs hp h, sumR_perm hl]
  have e2 : ∀ p, p < n → (takenL (·.2) n step ds).getD p 0 = sumR (fun k => (dAt ds k).2.getD p 0) l := fun p h => by rw [taken_row (f := (·.2)) f2 step hs hp h, sumR_perm hl]
  obtain ⟨mk', h1, h2, h3⟩ := run_row N l mk (fun k hk => rowL_mem (hl.mem_iff.mp hk)) hm fun p h => by rw [← e1 p h]; exact (leB_getD t1 hm).mp hok p h
  rw [h1]
  congr 1
  exact ext_getD h2 (stepL_len hm t1 t2) fun p h => by rw [h3 p h, stepL_getD hm t1 t2 h, e1 p h, e2 p h]
end

abbrev rowP (l : List Nat) : PV := .tup (l.map fun k => .int (k : Nat))
theorem rep_row (k : Nat) : ∀ c, (List.replicate c [PV.int (k : Nat)]).flatten = (List.replicate c k).map fun k : Nat => PV.int (k : Nat)
  | 0 => rfl
  | c + 1 => by rw [List.replicate_succ, List.flatten_cons, rep_row k c, List.replicate_succ]; rfl
theorem row_step {step : List Int} (hb : ∀ x ∈ step, 0 ≤ x ∧ x ≤ 2) {k : Nat} (hk : k < step.length) (hl : step.length ≤ 5) (e : Q.Env) (g : G) : ∃ w, opMul e g (.tup [.int (k : Nat)]) (.int (step[k]'hk)) = some (.tup w) ∧ opAdd e g (rowP (rowL step k)) (.tup w) = some (rowP (rowL step (k + 1))) := by
  have hx := hb _ (List.getElem_mem hk)
  have c1 : (decide (-1000 ≤ step[k]) && decide (step[k] ≤ 1000) && Nat.ble 1 1000) = true := by
    rw [decide_eq_true (by omega), decide_eq_true (by omega)]; rfl
  have e1 : step.getD k 0 = step[k] := getD_of (List.getElem?_eq_getElem hk)
  refine ⟨(List.replicate step[k].toNat [PV.int (k : Nat)]).flatten, ?_, ?_⟩
  · show (if (decide (-1000 ≤ step[k]) && decide (step[k] ≤ 1000) && Nat.ble 1 1000) = true then _ else none) = _
    rw [c1]; rfl
  · have h1 := rowL_len hb k
    rw [rep_row]
    have := add_tup (e := e) (g := g) (xs := (rowL step k).map fun k : Nat => PV.int (k : Nat)) (ys := (List.replicate step[k].toNat k).map fun k : Nat => PV.int (k : Nat)) (by rw [List.length_map, List.length_map, List.length_replicate]; omega)
    rw [this, rowL_succ, e1, ← List.map_append]
theorem row_of_step_eq {step : List Int} (hb : ∀ x ∈ step, 0 ≤ x ∧ x ≤ 2) (hl : step.length ≤ 5) (g : G) : Frow_of_step [ti step] g = .ok (rowP (rowL step step.length)) g := by
  apply eq_of_sat
  refine satFn rfl ?_
  show SatS (Brow_of_step [.val (ti step), .un, .un, .un] g) _ _
  refine SatS.seq (SatS.set ?_)
  simp only [ev_var, ev_any, ev_c, ev_bin, ev_binF, ev_chain, ev_un, ev_cons, ev_nil, ev_tup, ev_disp, ev_lst, ev_glo, ev_callB, ev_callF, ev_call, ev_if, ev_sl, ev_oN, ev_oS, ev_rev, ev_isa, ev_tOf, ev_tAnd, ev_tOr, ev_tNot, ev_andV, ev_orV, ev_notV, ev_upper, ev_yes, ev_comp, wipeE, notOwn, List.all_cons, List.all_nil, ev_range1, ev_range2, ev_isq, ev_zip2, ev_zip3, ev_enum, optR_some, bind_ok, Sat_ok, Sat_bind, List.getElem?_cons_zero, List.getElem?_cons_succ, List.set_cons_zero, List.set_cons_succ, List.length_cons, List.length_nil, Bool.true_and, Bool.and_true, Bool.and_self, Bool.or_true, Bool.true_or, Bool.false_or, Bool.or_false, Bool.not_true, Bool.not_false, Bool.false_and, Bool.and_false, if_true, if_false, Bool.false_eq_true, reduceIte, reduceCtorEq, fits1000 (show 0 ≤ 1000000 by omega)]
  refine SatS.seq (SatS.for_ ?_)
  simp only [ev_var, ev_any, ev_c, ev_bin, ev_binF, ev_chain, ev_un, ev_cons, ev_nil, ev_tup, ev_disp, ev_lst, ev_glo, ev_callB, ev_callF, ev_call, ev_if, ev_sl, ev_oN, ev_oS, ev_rev, ev_isa, ev_tOf, ev_tAnd, ev_tOr, ev_tNot, ev_andV, ev_orV, ev_notV, ev_upper, ev_yes, ev_comp, wipeE, notOwn, List.all_cons, List.all_nil, ev_range1, ev_range2, ev_isq, ev_zip2, ev_zip3, ev_enum, optR_some, bind_ok, Sat_ok, Sat_bind, List.getElem?_cons_zero, List.getElem?_cons_succ, List.set_cons_zero, List.set_cons_succ, List.length_cons, List.length_nil, Bool.true_and, Bool.and_true, Bool.and_self, Bool.or_true, Bool.true_or, Bool.false_or, Bool.or_false, Bool.not_true, Bool.not_false, Bool.false_and, Bool.and_false, if_true, if_false, Bool.false_eq_true, reduceIte, reduceCtorEq, frSeq]
  refine sat_for (fun k e g' => g' = g ∧ ∃ s2 s3 : SV, e = [.val (ti step), .val (rowP (rowL step k)), s2, s3]) ?_ ?_ ⟨rfl, _, _, rfl⟩
  · rintro k x e g' hx ⟨rfl, s2, s3, rfl⟩
    have hk : k < step.length := by
      have := (List.getElem?_eq_some_iff.mp hx).1
      rw [enumP_len, List.length_map] at this
      exact this
    rw [enumP_get (show (step.map PV.int)[k]? = some (.int step[k]) by rw [List.getElem?_map, List.getElem?_eq_getElem hk]; rfl)] at hx
    cases hx
    refine ⟨_, rfl, SatS.set ?_⟩
    obtain ⟨w, hw1, hw2⟩ := row_step hb hk hl [.val (ti step), .val (rowP (rowL step k)), .val (.int (k : Nat)), .val (.int step[k])] g'
    simp only [ev_var, ev_any, ev_c, ev_bin, ev_binF, ev_chain, ev_un, ev_cons, ev_nil, ev_tup, ev_disp, ev_lst, ev_glo, ev_callB, ev_callF, ev_call, ev_if, ev_sl, ev_oN, ev_oS, ev_rev, ev_isa, ev_tOf, ev_tAnd, ev_tOr, ev_tNot, ev_andV, ev_orV, ev_notV, ev_upper, ev_yes, ev_comp, wipeE, notOwn, List.all_cons, List.all_nil, ev_range1, ev_range2, ev_isq, ev_zip2, ev_zip3, ev_enum, optR_some, bind_ok, Sat_ok, Sat_bind, List.getElem?_cons_zero, List.getElem?_cons_succ, List.set_cons_zero, List.set_cons_succ, List.length_cons, List.length_nil, Bool.true_and, Bool.and_true, Bool.and_self, Bool.or_true, Bool.true_or, Bool.false_or, Bool.or_false, Bool.not_true, Bool.not_false, Bool.false_and, Bool.and_false, if_true, if_false, Bool.false_eq_true, reduceIte, reduceCtorEq, fits1000 (show 1 ≤ 1000000 by omega), hw1, hw2]
    exact ⟨trivial, _, _, rfl⟩
  · rintro e g' ⟨rfl, s2, s3, rfl⟩
    refine SatS.ret ?_
    simp only [ev_var, ev_any, ev_c, ev_bin, ev_binF, ev_chain, ev_un, ev_cons, ev_nil, ev_tup, ev_disp, ev_lst, ev_glo, ev_callB, ev_callF, ev_call, ev_if, ev_sl, ev_oN, ev_oS, ev_rev, ev_isa, ev_tOf, ev_tAnd, ev_tOr, ev_tNot, ev_andV, ev_orV, ev_notV, ev_upper, ev_yes, ev_comp, wipeE, notOwn, List.all_cons, List.all_nil, ev_range1, ev_range2, ev_isq, ev_zip2, ev_zip3, ev_enum, optR_some, bind_ok, Sat_ok, Sat_bind, List.getElem?_cons_zero, List.getElem?_cons_succ, List.set_cons_zero, List.set_cons_succ, List.length_cons, List.length_nil, Bool.true_and, Bool.and_true, Bool.and_self, Bool.or_true, Bool.true_or, Bool.false_or, Bool.or_false, Bool.not_true, Bool.not_false, Bool.false_and, Bool.and_false, if_true, if_false, Bool.false_eq_true, reduceIte, reduceCtorEq]
    rw [enumP_len, List.length_map]
    exact ⟨rfl, trivial⟩
theorem sat_popG {f k : EE} {e : Q.Env} {g : G} {P : PV → G → Prop} {L0 : Nat} {xs : List PV} (hf : f e g = .ok (.ref L0) g) (hg : g[L0]? = some (.lst xs))
    (h : Sat (k e g) fun ix g2 => ∃ (i : Int) (ys : List PV) (j : Nat) (v : PV), ix = .int i ∧ g2[L0]? = some (.lst ys) ∧ ixN ys.length i = some j ∧ ys[j]? = some v ∧ P v (g2.set L0 (.lst (ys.eraseIdx j)))) : Sat (ePopG f k e g) P := by
  unfold ePopG
  rw [hf]
  show Sat (match g[L0]? with
    | some (.lst _) => _
    | _ => _) P
  rw [hg]
  show Sat ((k e g).bind _) P
  refine Sat.bind (h.imp ?_)
  rintro ix g2 ⟨i, ys, j, v, rfl, h1, h2, h3, h4⟩
  simp only [h1, h2, h3]
  exact h4
/-- a pool beside a list of the store -/
structure PL (p : PV) (g : G) (B L0 : Nat) (left : List PV) : Prop where
  ex : ∃ (rs : List Int) (n : Nat) (k : Int), p = .lst [.lst (rs.map .int), .ref n] ∧ rs ≠ [] ∧ rs.length ≤ 1000 ∧ g[n]? = some (.lst [.int k]) ∧ 0 ≤ k ∧ k ≤ B ∧ n < L0
  at_ : g[L0]? = some (.lst left)
theorem Pool.pl {p : PV} {g : G} {B : Nat} (h : Pool p g B) (left : List PV) : PL p (g ++ [.lst left]) B g.length left := by
  obtain ⟨rs, n, k, h1, h2, h3, h4, h5, h6⟩ := h.ex
  have hn := (List.getElem?_eq_some_iff.mp h4).1
  refine ⟨⟨rs, n, k, h1, h2, h3, by rw [List.getElem?_append_left hn]; exact h4, h5, h6, hn⟩, ?_⟩
  rw [List.getElem?_append_right (Nat.le_refl _), Nat.sub_self]; rfl
theorem PL.pool {p : PV} {g : G} {B L0 : Nat} {left : List PV} (h : PL p g B L0 left) : Pool p g B := by
  obtain ⟨rs, n, k, h1, h2, h3, h4, h5, h6, _⟩ := h.ex
  exact ⟨rs, n, k, h1, h2, h3, h4, h5, h6⟩
theorem PL.draw {p : PV} {g : G} {B L0 : Nat} {left : List PV} {m : Int} (h : PL p g B L0 left) (hB : B ≤ 100000000) (hm : 0 < m) : Sat (F_law_draw [p, .int m] g) fun v g' => ∃ i : Int, v = .int i ∧ 0 ≤ i ∧ i < m ∧ PL p g' (B + 1) L0 left := by
  obtain ⟨rs, n, k, rfl, h2, h3, h4, h5, h6, h7⟩ := h.ex
  refine (draw_eq (m := m) h2 h3 h4 h5 (by omega) hm).imp ?_
  rintro w g' ⟨v, rfl, v0, v1, rfl⟩
  refine ⟨v, rfl, v0, v1, ⟨rs, n, k + 1, rfl, h2, h3, ?_, by omega, by omega, h7⟩, ?_⟩
  · rw [List.getElem?_set_self (List.getElem?_eq_some_iff.mp h4).1]
  · rw [List.getElem?_set_ne (by omega)]; exact h.at_
theorem PL.set {p : PV} {g : G} {B L0 : Nat} {left left' : List PV} (h : PL p g B L0 left) : PL p (g.set L0 (.lst left')) B L0 left' := by
  obtain ⟨rs, n, k, rfl, h2, h3, h4, h5, h6, h7⟩ := h.ex
  exact ⟨⟨rs, n, k, rfl, h2, h3, by rw [List.getElem?_set_ne (by omega)]; exact h4, h5, h6, h7⟩, List.getElem?_set_self (List.getElem?_eq_some_iff.mp h.at_).1⟩
theorem opSl_lst {e : Q.Env} {g : G} {xs : List PV} {lo hi : Option Int} : opSl e g (.lst xs) lo hi = some (.lst (cutP xs lo hi)) := Eq.trans rfl rfl
theorem add_lst' {e : Q.Env} {g : G} {xs ys : List PV} (h : xs.length + ys.length ≤ 1000000) : opAdd e g (.lst xs) (.lst ys) = some (.lst (xs ++ ys)) := by
  show (if fits (xs.length + ys.length) then some (PV.lst (xs ++ ys)) else none) = _
  rw [fits1000 h]; rfl
theorem cutP_map {α β : Type} (f : α → β) (l : List α) (lo hi : Option Int) : cutP (l.map f) lo hi = (cutP l lo hi).map f := by
  unfold cutP
  rw [List.length_map, List.map_take, List.map_drop]
theorem cutP_mem' {α : Type} {xs : List α} {lo hi : Option Int} {x : α} (h : x ∈ cutP xs lo hi) : x ∈ xs := by
  unfold cutP at h
  exact List.mem_of_mem_drop (List.mem_of_mem_take h)
theorem eqOk_ti (r : List Int) (h : r.length ≤ 1000000) : eqOk 1 (ti r) := .inr ⟨r.map .int, .inl rfl, by rw [List.length_map]; exact h, fun x hx => by
  obtain ⟨i, _, rfl⟩ := List.mem_map.mp hx
  rfl⟩
theorem eqOk_rows (rows : List (List Int)) (h : rows.length ≤ 1000000) (hr : ∀ r ∈ rows, r.length ≤ 1000000) : eqOk 2 (.lst (rows.map ti)) := .inr ⟨rows.map ti, .inr rfl, by rw [List.length_map]; exact h, fun x hx => by
  obtain ⟨r, hr', rfl⟩ := List.mem_map.mp hx
  exact eqOk_ti r (hr r hr')⟩
theorem eqOk_row (r : List Nat) (h : r.length ≤ 1000000) : eqOk 1 (rowP r) := .inr ⟨_, .inl rfl, by rw [List.length_map]; exact h, fun x hx => by
  obtain ⟨i, _, rfl⟩ := List.mem_map.mp hx
  rfl⟩
theorem erase_map {α β : Type} (f : α → β) : ∀ (l : List α) (j : Nat), (l.map f).eraseIdx j = (l.eraseIdx j).map f
  | [], _ => rfl
  | _ :: _, 0 => rfl
  | x :: l, j + 1 => by
    show f x :: (l.map f).eraseIdx j = f x :: (l.eraseIdx j).map f
    rw [erase_map f l j]
theorem erase_perm {α : Type} : ∀ {l : List α} {j : Nat} (h : j < l.length), (l[j] :: l.eraseIdx j).Perm l
  | [], _, h => absurd h (by simp)
  | x :: l, 0, _ => List.Perm.refl _
  | x :: l, j + 1, h => by
    have h' : j < l.length := by simpa using h
    show (l[j] :: x :: l.eraseIdx j).Perm (x :: l)
    exact (List.Perm.swap x l[j] _).trans (List.Perm.cons x (erase_perm h'))

theorem law_sat (ns : List Int) (hns : ns.length ≤ 63) : Sat (Flaw [.scr (ns.map .int)] []) fun v _ => v = .bl true := by
  refine satFn rfl ?_
  show SatS (Blaw [.val (.scr (ns.map .int)), .un, .un, .un, .un, .un, .un, .un, .un, .un, .un, .un, .un, .un, .un, .un, .un, .un, .un, .un] []) _ _
  refine SatS.seq (SatS.set ?_)
  simp only [ev_var, ev_any, ev_c, ev_bin, ev_binF, ev_chain, ev_un, ev_cons, ev_nil, ev_tup, ev_disp, ev_lst, ev_glo, ev_callB, ev_callF, ev_call, ev_if, ev_sl, ev_oN, ev_oS, ev_rev, ev_isa, ev_tOf, ev_tAnd, ev_tOr, ev_tNot, ev_andV, ev_orV, ev_notV, ev_upper, ev_yes, ev_comp, wipeE, notOwn, List.all_cons, List.all_nil, ev_range1, ev_range2, ev_isq, ev_zip2, ev_zip3, ev_enum, optR_some, bind_ok, Sat_ok, Sat_bind, List.getElem?_cons_zero, List.getElem?_cons_succ, List.set_cons_zero, List.set_cons_succ, List.length_cons, List.length_nil, Bool.true_and, Bool.and_true, Bool.and_self, Bool.or_true, Bool.true_or, Bool.false_or, Bool.or_false, Bool.not_true, Bool.not_false, Bool.false_and, Bool.and_false, if_true, if_false, Bool.false_eq_true, reduceIte, reduceCtorEq]
  refine (sat_pool ns hns).imp fun p g hp => ?_
  refine SatS.seq (SatS.set ?_)
  simp only [ev_var, ev_any, ev_c, ev_bin, ev_binF, ev_chain, ev_un, ev_cons, ev_nil, ev_tup, ev_disp, ev_lst, ev_glo, ev_callB, ev_callF, ev_call, ev_if, ev_sl, ev_oN, ev_oS, ev_rev, ev_isa, ev_tOf, ev_tAnd, ev_tOr, ev_tNot, ev_andV, ev_orV, ev_notV, ev_upper, ev_yes, ev_comp, wipeE, notOwn, List.all_cons, List.all_nil, ev_range1, ev_range2, ev_isq, ev_zip2, ev_zip3, ev_enum, optR_some, bind_ok, Sat_ok, Sat_bind, List.getElem?_cons_zero, List.getElem?_cons_succ, List.set_cons_zero, List.set_cons_succ, List.length_cons, List.length_nil, Bool.true_and, Bool.and_true, Bool.and_self, Bool.or_true, Bool.true_or, Bool.false_or, Bool.or_false, Bool.not_true, Bool.not_false, Bool.false_and, Bool.and_false, if_true, if_false, Bool.false_eq_true, reduceIte, reduceCtorEq]
  refine (sat_net hp (by omega)).imp ?_
  rintro _ g1 ⟨n, ds, rfl, N, hp1⟩
  have hn5 := N.n5
  have hm5 := N.m5
  have hm1 := N.m1
  refine SatS.seq (SatS.set ?_)
  simp only [ev_var, ev_any, ev_c, ev_bin, ev_binF, ev_chain, ev_un, ev_cons, ev_nil, ev_tup, ev_disp, ev_lst, ev_glo, ev_callB, ev_callF, ev_call, ev_if, ev_sl, ev_oN, ev_oS, ev_rev, ev_isa, ev_tOf, ev_tAnd, ev_tOr, ev_tNot, ev_andV, ev_orV, ev_notV, ev_upper, ev_yes, ev_comp, wipeE, notOwn, List.all_cons, List.all_nil, ev_range1, ev_range2, ev_isq, ev_zip2, ev_zip3, ev_enum, optR_some, bind_ok, Sat_ok, Sat_bind, List.getElem?_cons_zero, List.getElem?_cons_succ, List.set_cons_zero, List.set_cons_succ, List.length_cons, List.length_nil, Bool.true_and, Bool.and_true, Bool.and_self, Bool.or_true, Bool.true_or, Bool.false_or, Bool.or_false, Bool.not_true, Bool.not_false, Bool.false_and, Bool.and_false, if_true, if_false, Bool.false_eq_true, reduceIte, reduceCtorEq, opAdd, opSub, opMul, opDiv, opMod, opNeg, opI, opLt, opLe, opGt, opGe, opEq, opNe, opEq_int, opIs, opIsnot, opIsB, isNonP, opIx, opLen, opTuple, opList, opInt, opAbs, opStr, opSum, opMax, opMin, opMM, opAny, opAll, opAA, asSeq, asLst, top, frSeq, kdP, isa, id_eq, Option.map_some, Option.bind_some, show atI [PV.int n, PV.tup (ds.map dp)] 0 = some (PV.int n) from rfl]
  refine (sat_marking hp1 (by omega) (by omega) (by omega) (by omega)).imp ?_
  rintro _ g2 ⟨mk, rfl, hmk, hp2⟩
  refine SatS.seq (SatS.set ?_)
  simp only [ev_var, ev_any, ev_c, ev_bin, ev_binF, ev_chain, ev_un, ev_cons, ev_nil, ev_tup, ev_disp, ev_lst, ev_glo, ev_callB, ev_callF, ev_call, ev_if, ev_sl, ev_oN, ev_oS, ev_rev, ev_isa, ev_tOf, ev_tAnd, ev_tOr, ev_tNot, ev_andV, ev_orV, ev_notV, ev_upper, ev_yes, ev_comp, wipeE, notOwn, List.all_cons, List.all_nil, ev_range1, ev_range2, ev_isq, ev_zip2, ev_zip3, ev_enum, optR_some, bind_ok, Sat_ok, Sat_bind, List.getElem?_cons_zero, List.getElem?_cons_succ, List.set_cons_zero, List.set_cons_succ, List.length_cons, List.length_nil, Bool.true_and, Bool.and_true, Bool.and_self, Bool.or_true, Bool.true_or, Bool.false_or, Bool.or_false, Bool.not_true, Bool.not_false, Bool.false_and, Bool.and_false, if_true, if_false, Bool.false_eq_true, reduceIte, reduceCtorEq, opAdd, opSub, opMul, opDiv, opMod, opNeg, opI, opLt, opLe, opGt, opGe, opEq, opNe, opEq_int, opIs, opIsnot, opIsB, isNonP, opIx, opLen, opTuple, opList, opInt, opAbs, opStr, opSum, opMax, opMin, opMM, opAny, opAll, opAA, asSeq, asLst, top, frSeq, kdP, isa, id_eq, Option.map_some, Option.bind_some, List.length_map, show atI [PV.int n, PV.tup (ds.map dp)] 1 = some (PV.tup (ds.map dp)) from rfl]
  refine SatS.seq (SatS.set ?_)
  simp only [ev_var, ev_any, ev_c, ev_bin, ev_binF, ev_chain, ev_un, ev_cons, ev_nil, ev_tup, ev_disp, ev_lst, ev_glo, ev_callB, ev_callF, ev_call, ev_if, ev_sl, ev_oN, ev_oS, ev_rev, ev_isa, ev_tOf, ev_tAnd, ev_tOr, ev_tNot, ev_andV, ev_orV, ev_notV, ev_upper, ev_yes, ev_comp, wipeE, notOwn, List.all_cons, List.all_nil, ev_range1, ev_range2, ev_isq, ev_zip2, ev_zip3, ev_enum, optR_some, bind_ok, Sat_ok, Sat_bind, List.getElem?_cons_zero, List.getElem?_cons_succ, List.set_cons_zero, List.set_cons_succ, List.length_cons, List.length_nil, Bool.true_and, Bool.and_true, Bool.and_self, Bool.or_true, Bool.true_or, Bool.false_or, Bool.or_false, Bool.not_true, Bool.not_false, Bool.false_and, Bool.and_false, if_true, if_false, Bool.false_eq_true, reduceIte, reduceCtorEq]
  refine (sat_draw hp2 (by omega) (by omega)).imp ?_
  rintro _ g3 ⟨a, rfl, a0, a1, hp3⟩
  obtain ⟨q, hq⟩ := nn_nat (show 0 ≤ 1 + a by omega)
  have hq2 : q ≤ 2 := by omega
  simp only [ev_var, ev_any, ev_c, ev_bin, ev_binF, ev_chain, ev_un, ev_cons, ev_nil, ev_tup, ev_disp, ev_lst, ev_glo, ev_callB, ev_callF, ev_call, ev_if, ev_sl, ev_oN, ev_oS, ev_rev, ev_isa, ev_tOf, ev_tAnd, ev_tOr, ev_tNot, ev_andV, ev_orV, ev_notV, ev_upper, ev_yes, ev_comp, wipeE, notOwn, List.all_cons, List.all_nil, ev_range1, ev_range2, ev_isq, ev_zip2, ev_zip3, ev_enum, optR_some, bind_ok, Sat_ok, Sat_bind, List.getElem?_cons_zero, List.getElem?_cons_succ, List.set_cons_zero, List.set_cons_succ, List.length_cons, List.length_nil, Bool.true_and, Bool.and_true, Bool.and_self, Bool.or_true, Bool.true_or, Bool.false_or, Bool.or_false, Bool.not_true, Bool.not_false, Bool.false_and, Bool.and_false, if_true, if_false, Bool.false_eq_true, reduceIte, reduceCtorEq, opAdd, opSub, opMul, opDiv, opMod, opNeg, opI, opLt, opLe, opGt, opGe, opEq, opNe, opEq_int, opIs, opIsnot, opIsB, isNonP, opIx, opLen, opTuple, opList, opInt, opAbs, opStr, opSum, opMax, opMin, opMM, opAny, opAll, opAA, asSeq, asLst, top, frSeq, kdP, isa, id_eq, Option.map_some, Option.bind_some, hq]
  refine SatS.seq (SatS.set ?_)
  simp only [ev_var, ev_any, ev_c, ev_bin, ev_binF, ev_chain, ev_un, ev_cons, ev_nil, ev_tup, ev_disp, ev_lst, ev_glo, ev_callB, ev_callF, ev_call, ev_if, ev_sl, ev_oN, ev_oS, ev_rev, ev_isa, ev_tOf, ev_tAnd, ev_tOr, ev_tNot, ev_andV, ev_orV, ev_notV, ev_upper, ev_yes, ev_comp, wipeE, notOwn, List.all_cons, List.all_nil, ev_range1, ev_range2, ev_isq, ev_zip2, ev_zip3, ev_enum, optR_some, bind_ok, Sat_ok, Sat_bind, List.getElem?_cons_zero, List.getElem?_cons_succ, List.set_cons_zero, List.set_cons_succ, List.length_cons, List.length_nil, Bool.true_and, Bool.and_true, Bool.and_self, Bool.or_true, Bool.true_or, Bool.false_or, Bool.or_false, Bool.not_true, Bool.not_false, Bool.false_and, Bool.and_false, if_true, if_false, Bool.false_eq_true, reduceIte, reduceCtorEq]
  rw [all_steps_eq N mk hmk.len hq2]
  simp only [ev_var, ev_any, ev_c, ev_bin, ev_binF, ev_chain, ev_un, ev_cons, ev_nil, ev_tup, ev_disp, ev_lst, ev_glo, ev_callB, ev_callF, ev_call, ev_if, ev_sl, ev_oN, ev_oS, ev_rev, ev_isa, ev_tOf, ev_tAnd, ev_tOr, ev_tNot, ev_andV, ev_orV, ev_notV, ev_upper, ev_yes, ev_comp, wipeE, notOwn, List.all_cons, List.all_nil, ev_range1, ev_range2, ev_isq, ev_zip2, ev_zip3, ev_enum, optR_some, bind_ok, Sat_ok, Sat_bind, List.getElem?_cons_zero, List.getElem?_cons_succ, List.set_cons_zero, List.set_cons_succ, List.length_cons, List.length_nil, Bool.true_and, Bool.and_true, Bool.and_self, Bool.or_true, Bool.true_or, Bool.false_or, Bool.or_false, Bool.not_true, Bool.not_false, Bool.false_and, Bool.and_false, if_true, if_false, Bool.false_eq_true, reduceIte, reduceCtorEq]
  have hSl : (sortR ((stepsK (okS n ds mk) q ds.length).filter pos)).length ≤ 243 := by
    have h1 : (sortR ((stepsK (okS n ds mk) q ds.length).filter pos)).length = ((stepsK (okS n ds mk) q ds.length).filter pos).length := List.length_mergeSort _
    have h2 := List.length_filter_le pos (stepsK (okS n ds mk) q ds.length)
    have h3 := stepsK_len (okS n ds mk) hq2 ds.length
    have h4 : 3 ^ ds.length ≤ 3 ^ 5 := Nat.pow_le_pow_right (by omega) hm5
    have h5 : 3 ^ 5 = 243 := by decide
    omega
  have hS : ∀ r ∈ sortR ((stepsK (okS n ds mk) q ds.length).filter pos), r.length = ds.length ∧ ∀ x ∈ r, 0 ≤ x ∧ x ≤ 2 := fun r hr => by
    obtain ⟨h1, h2⟩ := stepsK_mem (List.mem_filter.mp (sortR_mem.mp hr)).1
    exact ⟨h1, fun x hx => by have := h2 x hx; omega⟩
  have hgr := fun g => greatest_eq N mk hq2 g _ rfl
  have hst := fun g => steps_at_eq N mk hq2 g
  generalize sortR ((stepsK (okS n ds mk) q ds.length).filter pos) = S at hSl hS hgr hst ⊢
  refine SatS.seq (SatS.ite ?_)
  simp only [ev_var, ev_any, ev_c, ev_bin, ev_binF, ev_chain, ev_un, ev_cons, ev_nil, ev_tup, ev_disp, ev_lst, ev_glo, ev_callB, ev_callF, ev_call, ev_if, ev_sl, ev_oN, ev_oS, ev_rev, ev_isa, ev_tOf, ev_tAnd, ev_tOr, ev_tNot, ev_andV, ev_orV, ev_notV, ev_upper, ev_yes, ev_comp, wipeE, notOwn, List.all_cons, List.all_nil, ev_range1, ev_range2, ev_isq, ev_zip2, ev_zip3, ev_enum, optR_some, bind_ok, Sat_ok, Sat_bind, List.getElem?_cons_zero, List.getElem?_cons_succ, List.set_cons_zero, List.set_cons_succ, List.length_cons, List.length_nil, Bool.true_and, Bool.and_true, Bool.and_self, Bool.or_true, Bool.true_or, Bool.false_or, Bool.or_false, Bool.not_true, Bool.not_false, Bool.false_and, Bool.and_false, if_true, if_false, Bool.false_eq_true, reduceIte, reduceCtorEq]
  rw [hst]
  simp only [ev_var, ev_any, ev_c, ev_bin, ev_binF, ev_chain, ev_un, ev_cons, ev_nil, ev_tup, ev_disp, ev_lst, ev_glo, ev_callB, ev_callF, ev_call, ev_if, ev_sl, ev_oN, ev_oS, ev_rev, ev_isa, ev_tOf, ev_tAnd, ev_tOr, ev_tNot, ev_andV, ev_orV, ev_notV, ev_upper, ev_yes, ev_comp, wipeE, notOwn, List.all_cons, List.all_nil, ev_range1, ev_range2, ev_isq, ev_zip2, ev_zip3, ev_enum, optR_some, bind_ok, Sat_ok, Sat_bind, List.getElem?_cons_zero, List.getElem?_cons_succ, List.set_cons_zero, List.set_cons_succ, List.length_cons, List.length_nil, Bool.true_and, Bool.and_true, Bool.and_self, Bool.or_true, Bool.true_or, Bool.false_or, Bool.or_false, Bool.not_true, Bool.not_false, Bool.false_and, Bool.and_false, if_true, if_false, Bool.false_eq_true, reduceIte, reduceCtorEq]
  rw [equal_refl 2 4 _ _ (by omega) (eqOk_rows S (by omega) fun r hr => by rw [(hS r hr).1]; omega)]
  simp only [ev_var, ev_any, ev_c, ev_bin, ev_binF, ev_chain, ev_un, ev_cons, ev_nil, ev_tup, ev_disp, ev_lst, ev_glo, ev_callB, ev_callF, ev_call, ev_if, ev_sl, ev_oN, ev_oS, ev_rev, ev_isa, ev_tOf, ev_tAnd, ev_tOr, ev_tNot, ev_andV, ev_orV, ev_notV, ev_upper, ev_yes, ev_comp, wipeE, notOwn, List.all_cons, List.all_nil, ev_range1, ev_range2, ev_isq, ev_zip2, ev_zip3, ev_enum, optR_some, bind_ok, Sat_ok, Sat_bind, List.getElem?_cons_zero, List.getElem?_cons_succ, List.set_cons_zero, List.set_cons_succ, List.length_cons, List.length_nil, Bool.true_and, Bool.and_true, Bool.and_self, Bool.or_true, Bool.true_or, Bool.false_or, Bool.or_false, Bool.not_true, Bool.not_false, Bool.false_and, Bool.and_false, if_true, if_false, Bool.false_eq_true, reduceIte, reduceCtorEq]
  refine SatS.nil (SatS.seq (SatS.set ?_))
  rw [lgreatest (n := n) (ds := ds) (m := ds.length) (rows := S) (by omega) (fun r hr => (hS r hr).1) rfl rfl rfl rfl (by omega)]
  simp only [ev_var, ev_any, ev_c, ev_bin, ev_binF, ev_chain, ev_un, ev_cons, ev_nil, ev_tup, ev_disp, ev_lst, ev_glo, ev_callB, ev_callF, ev_call, ev_if, ev_sl, ev_oN, ev_oS, ev_rev, ev_isa, ev_tOf, ev_tAnd, ev_tOr, ev_tNot, ev_andV, ev_orV, ev_notV, ev_upper, ev_yes, ev_comp, wipeE, notOwn, List.all_cons, List.all_nil, ev_range1, ev_range2, ev_isq, ev_zip2, ev_zip3, ev_enum, optR_some, bind_ok, Sat_ok, Sat_bind, List.getElem?_cons_zero, List.getElem?_cons_succ, List.set_cons_zero, List.set_cons_succ, List.length_cons, List.length_nil, Bool.true_and, Bool.and_true, Bool.and_self, Bool.or_true, Bool.true_or, Bool.false_or, Bool.or_false, Bool.not_true, Bool.not_false, Bool.false_and, Bool.and_false, if_true, if_false, Bool.false_eq_true, reduceIte, reduceCtorEq]
  refine SatS.seq (SatS.ite ?_)
  simp only [ev_var, ev_any, ev_c, ev_bin, ev_binF, ev_chain, ev_un, ev_cons, ev_nil, ev_tup, ev_disp, ev_lst, ev_glo, ev_callB, ev_callF, ev_call, ev_if, ev_sl, ev_oN, ev_oS, ev_rev, ev_isa, ev_tOf, ev_tAnd, ev_tOr, ev_tNot, ev_andV, ev_orV, ev_notV, ev_upper, ev_yes, ev_comp, wipeE, notOwn, List.all_cons, List.all_nil, ev_range1, ev_range2, ev_isq, ev_zip2, ev_zip3, ev_enum, optR_some, bind_ok, Sat_ok, Sat_bind, List.getElem?_cons_zero, List.getElem?_cons_succ, List.set_cons_zero, List.set_cons_succ, List.length_cons, List.length_nil, Bool.true_and, Bool.and_true, Bool.and_self, Bool.or_true, Bool.true_or, Bool.false_or, Bool.or_false, Bool.not_true, Bool.not_false, Bool.false_and, Bool.and_false, if_true, if_false, Bool.false_eq_true, reduceIte, reduceCtorEq]
  rw [hgr]
  simp only [ev_var, ev_any, ev_c, ev_bin, ev_binF, ev_chain, ev_un, ev_cons, ev_nil, ev_tup, ev_disp, ev_lst, ev_glo, ev_callB, ev_callF, ev_call, ev_if, ev_sl, ev_oN, ev_oS, ev_rev, ev_isa, ev_tOf, ev_tAnd, ev_tOr, ev_tNot, ev_andV, ev_orV, ev_notV, ev_upper, ev_yes, ev_comp, wipeE, notOwn, List.all_cons, List.all_nil, ev_range1, ev_range2, ev_isq, ev_zip2, ev_zip3, ev_enum, optR_some, bind_ok, Sat_ok, Sat_bind, List.getElem?_cons_zero, List.getElem?_cons_succ, List.set_cons_zero, List.set_cons_succ, List.length_cons, List.length_nil, Bool.true_and, Bool.and_true, Bool.and_self, Bool.or_true, Bool.true_or, Bool.false_or, Bool.or_false, Bool.not_true, Bool.not_false, Bool.false_and, Bool.and_false, if_true, if_false, Bool.false_eq_true, reduceIte, reduceCtorEq]
  have hGl : (S.filter fun r => !bad S r).length ≤ 243 := Nat.le_trans (List.length_filter_le _ _) hSl
  rw [equal_refl 2 4 _ _ (by omega) (eqOk_rows _ (by omega) fun r hr => by rw [(hS r (List.mem_filter.mp hr).1).1]; omega)]
  simp only [ev_var, ev_any, ev_c, ev_bin, ev_binF, ev_chain, ev_un, ev_cons, ev_nil, ev_tup, ev_disp, ev_lst, ev_glo, ev_callB, ev_callF, ev_call, ev_if, ev_sl, ev_oN, ev_oS, ev_rev, ev_isa, ev_tOf, ev_tAnd, ev_tOr, ev_tNot, ev_andV, ev_orV, ev_notV, ev_upper, ev_yes, ev_comp, wipeE, notOwn, List.all_cons, List.all_nil, ev_range1, ev_range2, ev_isq, ev_zip2, ev_zip3, ev_enum, optR_some, bind_ok, Sat_ok, Sat_bind, List.getElem?_cons_zero, List.getElem?_cons_succ, List.set_cons_zero, List.set_cons_succ, List.length_cons, List.length_nil, Bool.true_and, Bool.and_true, Bool.and_self, Bool.or_true, Bool.true_or, Bool.false_or, Bool.or_false, Bool.not_true, Bool.not_false, Bool.false_and, Bool.and_false, if_true, if_false, Bool.false_eq_true, reduceIte, reduceCtorEq]
  generalize (S.filter fun r => !bad S r).map ti = GR
  refine SatS.nil (SatS.seq (SatS.set ?_))
  simp only [ev_var, ev_any, ev_c, ev_bin, ev_binF, ev_chain, ev_un, ev_cons, ev_nil, ev_tup, ev_disp, ev_lst, ev_glo, ev_callB, ev_callF, ev_call, ev_if, ev_sl, ev_oN, ev_oS, ev_rev, ev_isa, ev_tOf, ev_tAnd, ev_tOr, ev_tNot, ev_andV, ev_orV, ev_notV, ev_upper, ev_yes, ev_comp, wipeE, notOwn, List.all_cons, List.all_nil, ev_range1, ev_range2, ev_isq, ev_zip2, ev_zip3, ev_enum, optR_some, bind_ok, Sat_ok, Sat_bind, List.getElem?_cons_zero, List.getElem?_cons_succ, List.set_cons_zero, List.set_cons_succ, List.length_cons, List.length_nil, Bool.true_and, Bool.and_true, Bool.and_self, Bool.or_true, Bool.true_or, Bool.false_or, Bool.or_false, Bool.not_true, Bool.not_false, Bool.false_and, Bool.and_false, if_true, if_false, Bool.false_eq_true, reduceIte, reduceCtorEq, rg1 (show (0 : Int) ≤ ds.length by omega), rg2 (show (ds.length : Int) ≤ 1000000 by omega)]
  refine sat_comp (fun k acc g' => ∃ s : List Int, acc = s.map .int ∧ s.length = k ∧ (∀ x ∈ s, 0 ≤ x ∧ x ≤ 2) ∧ Pool p g' (600 + k)) ?_ ?_ ⟨[], rfl, rfl, by simp, hp3.mono (by omega)⟩
  · rintro k x acc g' hx ⟨s, rfl, hs, hb, hp⟩
    obtain ⟨rfl, hk, _⟩ := range_at hx
    refine ⟨_, rfl, ?_⟩
    simp only [ev_var, ev_any, ev_c, ev_bin, ev_binF, ev_chain, ev_un, ev_cons, ev_nil, ev_tup, ev_disp, ev_lst, ev_glo, ev_callB, ev_callF, ev_call, ev_if, ev_sl, ev_oN, ev_oS, ev_rev, ev_isa, ev_tOf, ev_tAnd, ev_tOr, ev_tNot, ev_andV, ev_orV, ev_notV, ev_upper, ev_yes, ev_comp, wipeE, notOwn, List.all_cons, List.all_nil, ev_range1, ev_range2, ev_isq, ev_zip2, ev_zip3, ev_enum, optR_some, bind_ok, Sat_ok, Sat_bind, List.getElem?_cons_zero, List.getElem?_cons_succ, List.set_cons_zero, List.set_cons_succ, List.length_cons, List.length_nil, Bool.true_and, Bool.and_true, Bool.and_self, Bool.or_true, Bool.true_or, Bool.false_or, Bool.or_false, Bool.not_true, Bool.not_false, Bool.false_and, Bool.and_false, if_true, if_false, Bool.false_eq_true, reduceIte, reduceCtorEq]
    refine (sat_draw hp (by omega) (by omega)).imp ?_
    rintro _ g4 ⟨j, rfl, j0, j1, hp4⟩
    refine ⟨s ++ [j], by rw [List.map_append]; rfl, by rw [List.length_append, hs]; rfl, ?_, hp4⟩
    intro x hx
    rcases List.mem_append.mp hx with hx | hx
    · exact hb x hx
    · rw [List.mem_singleton.mp hx]; omega
  rintro acc g4 ⟨dr, rfl, hdl, hdb, hp4⟩
  rw [rangeN_len] at hdl hp4
  simp only [ev_var, ev_any, ev_c, ev_bin, ev_binF, ev_chain, ev_un, ev_cons, ev_nil, ev_tup, ev_disp, ev_lst, ev_glo, ev_callB, ev_callF, ev_call, ev_if, ev_sl, ev_oN, ev_oS, ev_rev, ev_isa, ev_tOf, ev_tAnd, ev_tOr, ev_tNot, ev_andV, ev_orV, ev_notV, ev_upper, ev_yes, ev_comp, wipeE, notOwn, List.all_cons, List.all_nil, ev_range1, ev_range2, ev_isq, ev_zip2, ev_zip3, ev_enum, optR_some, bind_ok, Sat_ok, Sat_bind, List.getElem?_cons_zero, List.getElem?_cons_succ, List.set_cons_zero, List.set_cons_succ, List.length_cons, List.length_nil, Bool.true_and, Bool.and_true, Bool.and_self, Bool.or_true, Bool.true_or, Bool.false_or, Bool.or_false, Bool.not_true, Bool.not_false, Bool.false_and, Bool.and_false, if_true, if_false, Bool.false_eq_true, reduceIte, reduceCtorEq, opAdd, opSub, opMul, opDiv, opMod, opNeg, opI, opLt, opLe, opGt, opGe, opEq, opNe, opEq_int, opIs, opIsnot, opIsB, isNonP, opIx, opLen, opTuple, opList, opInt, opAbs, opStr, opSum, opMax, opMin, opMM, opAny, opAll, opAA, asSeq, asLst, top, frSeq, kdP, isa, id_eq, Option.map_some, Option.bind_some]
  refine SatS.seq (SatS.for_ ?_)
  simp only [ev_var, ev_any, ev_c, ev_bin, ev_binF, ev_chain, ev_un, ev_cons, ev_nil, ev_tup, ev_disp, ev_lst, ev_glo, ev_callB, ev_callF, ev_call, ev_if, ev_sl, ev_oN, ev_oS, ev_rev, ev_isa, ev_tOf, ev_tAnd, ev_tOr, ev_tNot, ev_andV, ev_orV, ev_notV, ev_upper, ev_yes, ev_comp, wipeE, notOwn, List.all_cons, List.all_nil, ev_range1, ev_range2, ev_isq, ev_zip2, ev_zip3, ev_enum, optR_some, bind_ok, Sat_ok, Sat_bind, List.getElem?_cons_zero, List.getElem?_cons_succ, List.set_cons_zero, List.set_cons_succ, List.length_cons, List.length_nil, Bool.true_and, Bool.and_true, Bool.and_self, Bool.or_true, Bool.true_or, Bool.false_or, Bool.or_false, Bool.not_true, Bool.not_false, Bool.false_and, Bool.and_false, if_true, if_false, Bool.false_eq_true, reduceIte, reduceCtorEq]
  have hvd : Vd 4 10 1 (ti dr) := vd_tup (by rw [List.length_map]; omega) fun x hx => by
    obtain ⟨i, hi, rfl⟩ := List.mem_map.mp hx
    have := hdb i hi
    exact fl_vd (v := .int i) ⟨by omega, by omega⟩ 0
  refine (sat_bends hvd hp4 (by omega)).imp ?_
  rintro _ g5 ⟨bs, rfl, hbl, hbd, hp5⟩
  have mul9 : ∀ (e : Q.Env) (g : G) (i : Int), opMul e g (.tup [.int i]) (.int ds.length) = some (.tup (List.replicate ds.length [PV.int i]).flatten) := fun e g i => by
    show (if (decide ((-1000 : Int) ≤ ds.length) && decide ((ds.length : Int) ≤ 1000) && Nat.ble 1 1000) = true then some (PV.tup (List.replicate ((ds.length : Int)).toNat [PV.int i]).flatten) else none) = _
    rw [decide_eq_true (by omega), decide_eq_true (by omega), Int.toNat_natCast]; rfl
  simp only [ev_var, ev_any, ev_c, ev_bin, ev_binF, ev_chain, ev_un, ev_cons, ev_nil, ev_tup, ev_disp, ev_lst, ev_glo, ev_callB, ev_callF, ev_call, ev_if, ev_sl, ev_oN, ev_oS, ev_rev, ev_isa, ev_tOf, ev_tAnd, ev_tOr, ev_tNot, ev_andV, ev_orV, ev_notV, ev_upper, ev_yes, ev_comp, wipeE, notOwn, List.all_cons, List.all_nil, ev_range1, ev_range2, ev_isq, ev_zip2, ev_zip3, ev_enum, optR_some, bind_ok, Sat_ok, Sat_bind, List.getElem?_cons_zero, List.getElem?_cons_succ, List.set_cons_zero, List.set_cons_succ, List.length_cons, List.length_nil, Bool.true_and, Bool.and_true, Bool.and_self, Bool.or_true, Bool.true_or, Bool.false_or, Bool.or_false, Bool.not_true, Bool.not_false, Bool.false_and, Bool.and_false, if_true, if_false, Bool.false_eq_true, reduceIte, reduceCtorEq, mul9, fits1000 (show 1 ≤ 1000000 by omega), fits1000 (show 3 ≤ 1000000 by omega)]
  rw [add_lst' (by show bs.length + 3 ≤ 1000000; omega)]
  simp only [ev_var, ev_any, ev_c, ev_bin, ev_binF, ev_chain, ev_un, ev_cons, ev_nil, ev_tup, ev_disp, ev_lst, ev_glo, ev_callB, ev_callF, ev_call, ev_if, ev_sl, ev_oN, ev_oS, ev_rev, ev_isa, ev_tOf, ev_tAnd, ev_tOr, ev_tNot, ev_andV, ev_orV, ev_notV, ev_upper, ev_yes, ev_comp, wipeE, notOwn, List.all_cons, List.all_nil, ev_range1, ev_range2, ev_isq, ev_zip2, ev_zip3, ev_enum, optR_some, bind_ok, Sat_ok, Sat_bind, List.getElem?_cons_zero, List.getElem?_cons_succ, List.set_cons_zero, List.set_cons_succ, List.length_cons, List.length_nil, Bool.true_and, Bool.and_true, Bool.and_self, Bool.or_true, Bool.true_or, Bool.false_or, Bool.or_false, Bool.not_true, Bool.not_false, Bool.false_and, Bool.and_false, if_true, if_false, Bool.false_eq_true, reduceIte, reduceCtorEq, frSeq]
  have repd : ∀ i : Int, dat2 (.tup (List.replicate ds.length [PV.int i]).flatten) := fun i => ⟨rfl, fun xs e => by
    cases e
    refine ⟨by simp; omega, fun x hx => ?_⟩
    obtain ⟨l, hl, hx⟩ := List.mem_flatten.mp hx
    rw [(List.mem_replicate.mp hl).2] at hx
    rw [List.mem_singleton.mp hx]; rfl⟩
  have hall : ∀ v ∈ bs ++ [.tup (List.replicate ds.length [PV.int 9]).flatten, .tup (List.replicate ds.length [PV.int 10]).flatten, .tup (List.replicate ds.length [PV.int 0]).flatten], dat2 v := fun v hv => by
    rcases List.mem_append.mp hv with hv | hv
    · exact hbd v hv
    · simp only [List.mem_cons, List.not_mem_nil, or_false] at hv
      rcases hv with rfl | rfl | rfl <;> exact repd _
  refine sat_for (fun k e g' => g' = g5 ∧ ∃ s9 s10 : SV, e = [.val (.scr (ns.map .int)), .val p, .val (netP n ds), .val (ti mk), .val (.int ds.length), .val (.int q), .val (.lst (S.map ti)), .val (.lst GR), .val (ti dr), s9, s10, .un, .un, .un, .un, .un, .un, .un, .un, .un]) ?_ ?_ ⟨rfl, _, _, rfl⟩
  · rintro k v e g' hx ⟨rfl, s9, s10, rfl⟩
    have hv := hall v (List.mem_of_getElem? hx)
    refine ⟨_, rfl, SatS.seq (SatS.set ?_)⟩
    simp only [ev_var, ev_any, ev_c, ev_bin, ev_binF, ev_chain, ev_un, ev_cons, ev_nil, ev_tup, ev_disp, ev_lst, ev_glo, ev_callB, ev_callF, ev_call, ev_if, ev_sl, ev_oN, ev_oS, ev_rev, ev_isa, ev_tOf, ev_tAnd, ev_tOr, ev_tNot, ev_andV, ev_orV, ev_notV, ev_upper, ev_yes, ev_comp, wipeE, notOwn, List.all_cons, List.all_nil, ev_range1, ev_range2, ev_isq, ev_zip2, ev_zip3, ev_enum, optR_some, bind_ok, Sat_ok, Sat_bind, List.getElem?_cons_zero, List.getElem?_cons_succ, List.set_cons_zero, List.set_cons_succ, List.length_cons, List.length_nil, Bool.true_and, Bool.and_true, Bool.and_self, Bool.or_true, Bool.true_or, Bool.false_or, Bool.or_false, Bool.not_true, Bool.not_false, Bool.false_and, Bool.and_false, if_true, if_false, Bool.false_eq_true, reduceIte, reduceCtorEq]
    rw [lints_eq hv]
    have hstep := is_step_eq N hv g'
    have fin : ∀ good : Bool, (good = (intsB v && tupLen v ds.length)) → SatS (sIf (tNot' (tOf (eCall F_law_is (aCons (eCall Fis_step (aCons (eVar 2) (aCons (eVar 9) aNil))) (aCons (eAndV (eVar 10) (eBin opGt (eCallB opSum (aCons (eVar 9) aNil)) (eC (.int 0)))) aNil))))) (sRet (eC (.bl false))) sNil
          [.val (.scr (ns.map .int)), .val p, .val (netP n ds), .val (ti mk), .val (.int ds.length), .val (.int q), .val (.lst (S.map ti)), .val (.lst GR), .val (ti dr), .val v, .val (.bl good), .un, .un, .un, .un, .un, .un, .un, .un, .un] g')
        (fun e g'' => g'' = g' ∧ ∃ s9 s10 : SV, e = [.val (.scr (ns.map .int)), .val p, .val (netP n ds), .val (ti mk), .val (.int ds.length), .val (.int q), .val (.lst (S.map ti)), .val (.lst GR), .val (ti dr), s9, s10, .un, .un, .un, .un, .un, .un, .un, .un, .un]) (fun v _ => v = .bl true) := by
      intro good hg
      refine SatS.ite ?_
      simp only [ev_var, ev_any, ev_c, ev_bin, ev_binF, ev_chain, ev_un, ev_cons, ev_nil, ev_tup, ev_disp, ev_lst, ev_glo, ev_callB, ev_callF, ev_call, ev_if, ev_sl, ev_oN, ev_oS, ev_rev, ev_isa, ev_tOf, ev_tAnd, ev_tOr, ev_tNot, ev_andV, ev_orV, ev_notV, ev_upper, ev_yes, ev_comp, wipeE, notOwn, List.all_cons, List.all_nil, ev_range1, ev_range2, ev_isq, ev_zip2, ev_zip3, ev_enum, optR_some, bind_ok, Sat_ok, Sat_bind, List.getElem?_cons_zero, List.getElem?_cons_succ, List.set_cons_zero, List.set_cons_succ, List.length_cons, List.length_nil, Bool.true_and, Bool.and_true, Bool.and_self, Bool.or_true, Bool.true_or, Bool.false_or, Bool.or_false, Bool.not_true, Bool.not_false, Bool.false_and, Bool.and_false, if_true, if_false, Bool.false_eq_true, reduceIte, reduceCtorEq]
      rw [hstep]
      simp only [ev_var, ev_any, ev_c, ev_bin, ev_binF, ev_chain, ev_un, ev_cons, ev_nil, ev_tup, ev_disp, ev_lst, ev_glo, ev_callB, ev_callF, ev_call, ev_if, ev_sl, ev_oN, ev_oS, ev_rev, ev_isa, ev_tOf, ev_tAnd, ev_tOr, ev_tNot, ev_andV, ev_orV, ev_notV, ev_upper, ev_yes, ev_comp, wipeE, notOwn, List.all_cons, List.all_nil, ev_range1, ev_range2, ev_isq, ev_zip2, ev_zip3, ev_enum, optR_some, bind_ok, Sat_ok, Sat_bind, List.getElem?_cons_zero, List.getElem?_cons_succ, List.set_cons_zero, List.set_cons_succ, List.length_cons, List.length_nil, Bool.true_and, Bool.and_true, Bool.and_self, Bool.or_true, Bool.true_or, Bool.false_or, Bool.or_false, Bool.not_true, Bool.not_false, Bool.false_and, Bool.and_false, if_true, if_false, Bool.false_eq_true, reduceIte, reduceCtorEq]
      cases hgd : good with
      | false =>
        simp only [ev_var, ev_any, ev_c, ev_bin, ev_binF, ev_chain, ev_un, ev_cons, ev_nil, ev_tup, ev_disp, ev_lst, ev_glo, ev_callB, ev_callF, ev_call, ev_if, ev_sl, ev_oN, ev_oS, ev_rev, ev_isa, ev_tOf, ev_tAnd, ev_tOr, ev_tNot, ev_andV, ev_orV, ev_notV, ev_upper, ev_yes, ev_comp, wipeE, notOwn, List.all_cons, List.all_nil, ev_range1, ev_range2, ev_isq, ev_zip2, ev_zip3, ev_enum, optR_some, bind_ok, Sat_ok, Sat_bind, List.getElem?_cons_zero, List.getElem?_cons_succ, List.set_cons_zero, List.set_cons_succ, List.length_cons, List.length_nil, Bool.true_and, Bool.and_true, Bool.and_self, Bool.or_true, Bool.true_or, Bool.false_or, Bool.or_false, Bool.not_true, Bool.not_false, Bool.false_and, Bool.and_false, if_true, if_false, Bool.false_eq_true, reduceIte, reduceCtorEq]
        have : (tupLen v ds.length && intsB v && posV v) = false := by
          rw [hgd] at hg
          rw [Bool.and_comm (tupLen v ds.length), ← hg]; rfl
        rw [this, is_eq]
        simp only [ev_var, ev_any, ev_c, ev_bin, ev_binF, ev_chain, ev_un, ev_cons, ev_nil, ev_tup, ev_disp, ev_lst, ev_glo, ev_callB, ev_callF, ev_call, ev_if, ev_sl, ev_oN, ev_oS, ev_rev, ev_isa, ev_tOf, ev_tAnd, ev_tOr, ev_tNot, ev_andV, ev_orV, ev_notV, ev_upper, ev_yes, ev_comp, wipeE, notOwn, List.all_cons, List.all_nil, ev_range1, ev_range2, ev_isq, ev_zip2, ev_zip3, ev_enum, optR_some, bind_ok, Sat_ok, Sat_bind, List.getElem?_cons_zero, List.getElem?_cons_succ, List.set_cons_zero, List.set_cons_succ, List.length_cons, List.length_nil, Bool.true_and, Bool.and_true, Bool.and_self, Bool.or_true, Bool.true_or, Bool.false_or, Bool.or_false, Bool.not_true, Bool.not_false, Bool.false_and, Bool.and_false, if_true, if_false, Bool.false_eq_true, reduceIte, reduceCtorEq, decide_true]
        exact SatS.nil ⟨rfl, _, _, rfl⟩
      | true =>
        rw [hgd] at hg
        have hg' := (Bool.and_eq_true _ _).mp hg.symm
        have hi := hg'.1
        cases v with
        | tup xs =>
          obtain ⟨r, rfl, hr, hps⟩ := sum_posV hi
          have : (tupLen (.tup (r.map .int)) ds.length && intsB (.tup (r.map .int)) && posV (.tup (r.map .int))) = pos r := by
            rw [hg'.2, hi, hps]; rfl
          simp only [ev_var, ev_any, ev_c, ev_bin, ev_binF, ev_chain, ev_un, ev_cons, ev_nil, ev_tup, ev_disp, ev_lst, ev_glo, ev_callB, ev_callF, ev_call, ev_if, ev_sl, ev_oN, ev_oS, ev_rev, ev_isa, ev_tOf, ev_tAnd, ev_tOr, ev_tNot, ev_andV, ev_orV, ev_notV, ev_upper, ev_yes, ev_comp, wipeE, notOwn, List.all_cons, List.all_nil, ev_range1, ev_range2, ev_isq, ev_zip2, ev_zip3, ev_enum, optR_some, bind_ok, Sat_ok, Sat_bind, List.getElem?_cons_zero, List.getElem?_cons_succ, List.set_cons_zero, List.set_cons_succ, List.length_cons, List.length_nil, Bool.true_and, Bool.and_true, Bool.and_self, Bool.or_true, Bool.true_or, Bool.false_or, Bool.or_false, Bool.not_true, Bool.not_false, Bool.false_and, Bool.and_false, if_true, if_false, Bool.false_eq_true, reduceIte, reduceCtorEq, opAdd, opSub, opMul, opDiv, opMod, opNeg, opI, opLt, opLe, opGt, opGe, opEq, opNe, opEq_int, opIs, opIsnot, opIsB, isNonP, opIx, opLen, opTuple, opList, opInt, opAbs, opStr, opSum, opMax, opMin, opMM, opAny, opAll, opAA, asSeq, asLst, top, frSeq, kdP, isa, id_eq, Option.map_some, Option.bind_some, ints_map, (sum_pos hr).1]
          rw [this, is_eq]
          simp only [ev_var, ev_any, ev_c, ev_bin, ev_binF, ev_chain, ev_un, ev_cons, ev_nil, ev_tup, ev_disp, ev_lst, ev_glo, ev_callB, ev_callF, ev_call, ev_if, ev_sl, ev_oN, ev_oS, ev_rev, ev_isa, ev_tOf, ev_tAnd, ev_tOr, ev_tNot, ev_andV, ev_orV, ev_notV, ev_upper, ev_yes, ev_comp, wipeE, notOwn, List.all_cons, List.all_nil, ev_range1, ev_range2, ev_isq, ev_zip2, ev_zip3, ev_enum, optR_some, bind_ok, Sat_ok, Sat_bind, List.getElem?_cons_zero, List.getElem?_cons_succ, List.set_cons_zero, List.set_cons_succ, List.length_cons, List.length_nil, Bool.true_and, Bool.and_true, Bool.and_self, Bool.or_true, Bool.true_or, Bool.false_or, Bool.or_false, Bool.not_true, Bool.not_false, Bool.false_and, Bool.and_false, if_true, if_false, Bool.false_eq_true, reduceIte, reduceCtorEq, decide_true]
          exact SatS.nil ⟨rfl, _, _, rfl⟩
        | _ => cases hi
    cases hi : intsB v with
    | false =>
      simp only [ev_var, ev_any, ev_c, ev_bin, ev_binF, ev_chain, ev_un, ev_cons, ev_nil, ev_tup, ev_disp, ev_lst, ev_glo, ev_callB, ev_callF, ev_call, ev_if, ev_sl, ev_oN, ev_oS, ev_rev, ev_isa, ev_tOf, ev_tAnd, ev_tOr, ev_tNot, ev_andV, ev_orV, ev_notV, ev_upper, ev_yes, ev_comp, wipeE, notOwn, List.all_cons, List.all_nil, ev_range1, ev_range2, ev_isq, ev_zip2, ev_zip3, ev_enum, optR_some, bind_ok, Sat_ok, Sat_bind, List.getElem?_cons_zero, List.getElem?_cons_succ, List.set_cons_zero, List.set_cons_succ, List.length_cons, List.length_nil, Bool.true_and, Bool.and_true, Bool.and_self, Bool.or_true, Bool.true_or, Bool.false_or, Bool.or_false, Bool.not_true, Bool.not_false, Bool.false_and, Bool.and_false, if_true, if_false, Bool.false_eq_true, reduceIte, reduceCtorEq]
      exact fin false (by rw [hi]; rfl)
    | true =>
      cases v with
      | tup xs =>
        simp only [ev_var, ev_any, ev_c, ev_bin, ev_binF, ev_chain, ev_un, ev_cons, ev_nil, ev_tup, ev_disp, ev_lst, ev_glo, ev_callB, ev_callF, ev_call, ev_if, ev_sl, ev_oN, ev_oS, ev_rev, ev_isa, ev_tOf, ev_tAnd, ev_tOr, ev_tNot, ev_andV, ev_orV, ev_notV, ev_upper, ev_yes, ev_comp, wipeE, notOwn, List.all_cons, List.all_nil, ev_range1, ev_range2, ev_isq, ev_zip2, ev_zip3, ev_enum, optR_some, bind_ok, Sat_ok, Sat_bind, List.getElem?_cons_zero, List.getElem?_cons_succ, List.set_cons_zero, List.set_cons_succ, List.length_cons, List.length_nil, Bool.true_and, Bool.and_true, Bool.and_self, Bool.or_true, Bool.true_or, Bool.false_or, Bool.or_false, Bool.not_true, Bool.not_false, Bool.false_and, Bool.and_false, if_true, if_false, Bool.false_eq_true, reduceIte, reduceCtorEq, opAdd, opSub, opMul, opDiv, opMod, opNeg, opI, opLt, opLe, opGt, opGe, opEq, opNe, opEq_int, opIs, opIsnot, opIsB, isNonP, opIx, opLen, opTuple, opList, opInt, opAbs, opStr, opSum, opMax, opMin, opMM, opAny, opAll, opAA, asSeq, asLst, top, frSeq, kdP, isa, id_eq, Option.map_some, Option.bind_some]
        refine fin _ ?_
        rw [hi, Bool.true_and]
        show ((xs.length : Int) == (ds.length : Int)) = (xs.length == ds.length)
        rw [Bool.eq_iff_iff, beq_iff_eq, beq_iff_eq]; omega
      | _ => cases hi
  · rintro e g' ⟨rfl, s9, s10, rfl⟩
    refine SatS.seq (SatS.for_ ?_)
    simp only [ev_var, ev_any, ev_c, ev_bin, ev_binF, ev_chain, ev_un, ev_cons, ev_nil, ev_tup, ev_disp, ev_lst, ev_glo, ev_callB, ev_callF, ev_call, ev_if, ev_sl, ev_oN, ev_oS, ev_rev, ev_isa, ev_tOf, ev_tAnd, ev_tOr, ev_tNot, ev_andV, ev_orV, ev_notV, ev_upper, ev_yes, ev_comp, wipeE, notOwn, List.all_cons, List.all_nil, ev_range1, ev_range2, ev_isq, ev_zip2, ev_zip3, ev_enum, optR_some, bind_ok, Sat_ok, Sat_bind, List.getElem?_cons_zero, List.getElem?_cons_succ, List.set_cons_zero, List.set_cons_succ, List.length_cons, List.length_nil, Bool.true_and, Bool.and_true, Bool.and_self, Bool.or_true, Bool.true_or, Bool.false_or, Bool.or_false, Bool.not_true, Bool.not_false, Bool.false_and, Bool.and_false, if_true, if_false, Bool.false_eq_true, reduceIte, reduceCtorEq, opSl_lst, opNeg, cutP_map, fits1000 (show 1 ≤ 1000000 by omega)]
    have k1 : (cutP S none (some 4)).length ≤ 243 := Nat.le_trans (cutP_len S _ _) hSl
    have k2 : (cutP S (some (-2)) none).length ≤ 243 := Nat.le_trans (cutP_len S _ _) hSl
    rw [add_lst' (by rw [List.length_map, List.length_map]; omega)]
    simp only [ev_var, ev_any, ev_c, ev_bin, ev_binF, ev_chain, ev_un, ev_cons, ev_nil, ev_tup, ev_disp, ev_lst, ev_glo, ev_callB, ev_callF, ev_call, ev_if, ev_sl, ev_oN, ev_oS, ev_rev, ev_isa, ev_tOf, ev_tAnd, ev_tOr, ev_tNot, ev_andV, ev_orV, ev_notV, ev_upper, ev_yes, ev_comp, wipeE, notOwn, List.all_cons, List.all_nil, ev_range1, ev_range2, ev_isq, ev_zip2, ev_zip3, ev_enum, optR_some, bind_ok, Sat_ok, Sat_bind, List.getElem?_cons_zero, List.getElem?_cons_succ, List.set_cons_zero, List.set_cons_succ, List.length_cons, List.length_nil, Bool.true_and, Bool.and_true, Bool.and_self, Bool.or_true, Bool.true_or, Bool.false_or, Bool.or_false, Bool.not_true, Bool.not_false, Bool.false_and, Bool.and_false, if_true, if_false, Bool.false_eq_true, reduceIte, reduceCtorEq, fits1000 (show 1 ≤ 1000000 by omega)]
    rw [add_lst' (by rw [List.length_append, List.length_map, List.length_map]; show _ + 1 ≤ _; omega)]
    simp only [ev_var, ev_any, ev_c, ev_bin, ev_binF, ev_chain, ev_un, ev_cons, ev_nil, ev_tup, ev_disp, ev_lst, ev_glo, ev_callB, ev_callF, ev_call, ev_if, ev_sl, ev_oN, ev_oS, ev_rev, ev_isa, ev_tOf, ev_tAnd, ev_tOr, ev_tNot, ev_andV, ev_orV, ev_notV, ev_upper, ev_yes, ev_comp, wipeE, notOwn, List.all_cons, List.all_nil, ev_range1, ev_range2, ev_isq, ev_zip2, ev_zip3, ev_enum, optR_some, bind_ok, Sat_ok, Sat_bind, List.getElem?_cons_zero, List.getElem?_cons_succ, List.set_cons_zero, List.set_cons_succ, List.length_cons, List.length_nil, Bool.true_and, Bool.and_true, Bool.and_self, Bool.or_true, Bool.true_or, Bool.false_or, Bool.or_false, Bool.not_true, Bool.not_false, Bool.false_and, Bool.and_false, if_true, if_false, Bool.false_eq_true, reduceIte, reduceCtorEq, frSeq]
    have hL : (cutP S none (some 4)).map ti ++ (cutP S (some (-2)) none).map ti ++ [ti dr] = (cutP S none (some 4) ++ cutP S (some (-2)) none ++ [dr]).map ti := by
      rw [List.map_append, List.map_append]; rfl
    have hLb : ∀ r ∈ cutP S none (some 4) ++ cutP S (some (-2)) none ++ [dr], r.length = ds.length ∧ ∀ x ∈ r, 0 ≤ x ∧ x ≤ 2 := fun r hr => by
      rcases List.mem_append.mp hr with hr | hr
      · rcases List.mem_append.mp hr with hr | hr
        · exact hS r (cutP_mem' hr)
        · exact hS r (cutP_mem' hr)
      · rw [List.mem_singleton.mp hr]; exact ⟨hdl, hdb⟩
    have hLl : (cutP S none (some 4) ++ cutP S (some (-2)) none ++ [dr]).length ≤ 487 := by
      rw [List.length_append, List.length_append, List.length_singleton]; omega
    rw [hL]
    generalize cutP S none (some 4) ++ cutP S (some (-2)) none ++ [dr] = L at hLb hLl
    refine sat_for (fun k e g' => Pool p g' (2000 + 100 * k) ∧ ∃ s9 s10 s11 s12 s13 s14 s15 s16 s17 s18 : SV, (∀ o, s18 ≠ .own o) ∧ e = [.val (.scr (ns.map .int)), .val p, .val (netP n ds), .val (ti mk), .val (.int ds.length), .val (.int q), .val (.lst (S.map ti)), .val (.lst GR), .val (ti dr), s9, s10, s11, s12, s13, s14, s15, s16, s17, s18, .un]) ?_ ?_ ⟨hp5.mono (by omega), _, _, _, _, _, _, _, _, _, .un, fun o z => (by cases z), rfl⟩
    · rintro k v e g6 hx ⟨hp6, s9, s10, s11, s12, s13, s14, s15, s16, s17, s18, h18, rfl⟩
      rw [List.getElem?_map] at hx
      cases hr : L[k]? with
      | none => rw [hr] at hx; cases hx
      | some r =>
        rw [hr] at hx; cases hx
        have hk : k < L.length := (List.getElem?_eq_some_iff.mp hr).1
        obtain ⟨hrl, hrb⟩ := hLb r (List.mem_of_getElem? hr)
        have f1 : ∀ d ∈ ds, d.1.length = n := fun d hd => (N.d1 d hd).len
        have f2 : ∀ d ∈ ds, d.2.length = n := fun d hd => (N.d2 d hd).len
        have t1 := takenL_len (f := (·.1)) f1 r
        have t2 := takenL_len (f := (·.2)) f2 r
        have lt0 : ∀ g, F_law_taken [netP n ds, ti r, .int 0] g = .ok (ti (takenL (·.1) n r ds)) g := fun g => ltaken_eq N r (by omega) false g
        have lt1 : ∀ g, F_law_taken [netP n ds, ti r, .int 1] g = .ok (ti (takenL (·.2) n r ds)) g := fun g => ltaken_eq N r (by omega) true g
        have lw : ∀ g, F_law_within [ti (takenL (·.1) n r ds), ti mk] g = .ok (.bl (leB (takenL (·.1) n r ds) mk)) g := fun g => lwithin_eq _ _ g (by rw [t1, hmk.len]) (by rw [t1]; omega)
        have hcan := fun g => can_eq N mk r g
        have hbeh := fun g => behind_eq N mk r g
        refine ⟨_, rfl, SatS.seq (SatS.set ?_)⟩
        simp only [ev_var, ev_any, ev_c, ev_bin, ev_binF, ev_chain, ev_un, ev_cons, ev_nil, ev_tup, ev_disp, ev_lst, ev_glo, ev_callB, ev_callF, ev_call, ev_if, ev_sl, ev_oN, ev_oS, ev_rev, ev_isa, ev_tOf, ev_tAnd, ev_tOr, ev_tNot, ev_andV, ev_orV, ev_notV, ev_upper, ev_yes, ev_comp, wipeE, notOwn, List.all_cons, List.all_nil, ev_range1, ev_range2, ev_isq, ev_zip2, ev_zip3, ev_enum, optR_some, bind_ok, Sat_ok, Sat_bind, List.getElem?_cons_zero, List.getElem?_cons_succ, List.set_cons_zero, List.set_cons_succ, List.length_cons, List.length_nil, Bool.true_and, Bool.and_true, Bool.and_self, Bool.or_true, Bool.true_or, Bool.false_or, Bool.or_false, Bool.not_true, Bool.not_false, Bool.false_and, Bool.and_false, if_true, if_false, Bool.false_eq_true, reduceIte, reduceCtorEq]
        rw [lt0]
        simp only [ev_var, ev_any, ev_c, ev_bin, ev_binF, ev_chain, ev_un, ev_cons, ev_nil, ev_tup, ev_disp, ev_lst, ev_glo, ev_callB, ev_callF, ev_call, ev_if, ev_sl, ev_oN, ev_oS, ev_rev, ev_isa, ev_tOf, ev_tAnd, ev_tOr, ev_tNot, ev_andV, ev_orV, ev_notV, ev_upper, ev_yes, ev_comp, wipeE, notOwn, List.all_cons, List.all_nil, ev_range1, ev_range2, ev_isq, ev_zip2, ev_zip3, ev_enum, optR_some, bind_ok, Sat_ok, Sat_bind, List.getElem?_cons_zero, List.getElem?_cons_succ, List.set_cons_zero, List.set_cons_succ, List.length_cons, List.length_nil, Bool.true_and, Bool.and_true, Bool.and_self, Bool.or_true, Bool.true_or, Bool.false_or, Bool.or_false, Bool.not_true, Bool.not_false, Bool.false_and, Bool.and_false, if_true, if_false, Bool.false_eq_true, reduceIte, reduceCtorEq]
        rw [lw]
        simp only [ev_var, ev_any, ev_c, ev_bin, ev_binF, ev_chain, ev_un, ev_cons, ev_nil, ev_tup, ev_disp, ev_lst, ev_glo, ev_callB, ev_callF, ev_call, ev_if, ev_sl, ev_oN, ev_oS, ev_rev, ev_isa, ev_tOf, ev_tAnd, ev_tOr, ev_tNot, ev_andV, ev_orV, ev_notV, ev_upper, ev_yes, ev_comp, wipeE, notOwn, List.all_cons, List.all_nil, ev_range1, ev_range2, ev_isq, ev_zip2, ev_zip3, ev_enum, optR_some, bind_ok, Sat_ok, Sat_bind, List.getElem?_cons_zero, List.getElem?_cons_succ, List.set_cons_zero, List.set_cons_succ, List.length_cons, List.length_nil, Bool.true_and, Bool.and_true, Bool.and_self, Bool.or_true, Bool.true_or, Bool.false_or, Bool.or_false, Bool.not_true, Bool.not_false, Bool.false_and, Bool.and_false, if_true, if_false, Bool.false_eq_true, reduceIte, reduceCtorEq]
        refine SatS.seq (SatS.ite ?_)
        simp only [ev_var, ev_any, ev_c, ev_bin, ev_binF, ev_chain, ev_un, ev_cons, ev_nil, ev_tup, ev_disp, ev_lst, ev_glo, ev_callB, ev_callF, ev_call, ev_if, ev_sl, ev_oN, ev_oS, ev_rev, ev_isa, ev_tOf, ev_tAnd, ev_tOr, ev_tNot, ev_andV, ev_orV, ev_notV, ev_upper, ev_yes, ev_comp, wipeE, notOwn, List.all_cons, List.all_nil, ev_range1, ev_range2, ev_isq, ev_zip2, ev_zip3, ev_enum, optR_some, bind_ok, Sat_ok, Sat_bind, List.getElem?_cons_zero, List.getElem?_cons_succ, List.set_cons_zero, List.set_cons_succ, List.length_cons, List.length_nil, Bool.true_and, Bool.and_true, Bool.and_self, Bool.or_true, Bool.true_or, Bool.false_or, Bool.or_false, Bool.not_true, Bool.not_false, Bool.false_and, Bool.and_false, if_true, if_false, Bool.false_eq_true, reduceIte, reduceCtorEq]
        rw [hcan]
        simp only [ev_var, ev_any, ev_c, ev_bin, ev_binF, ev_chain, ev_un, ev_cons, ev_nil, ev_tup, ev_disp, ev_lst, ev_glo, ev_callB, ev_callF, ev_call, ev_if, ev_sl, ev_oN, ev_oS, ev_rev, ev_isa, ev_tOf, ev_tAnd, ev_tOr, ev_tNot, ev_andV, ev_orV, ev_notV, ev_upper, ev_yes, ev_comp, wipeE, notOwn, List.all_cons, List.all_nil, ev_range1, ev_range2, ev_isq, ev_zip2, ev_zip3, ev_enum, optR_some, bind_ok, Sat_ok, Sat_bind, List.getElem?_cons_zero, List.getElem?_cons_succ, List.set_cons_zero, List.set_cons_succ, List.length_cons, List.length_nil, Bool.true_and, Bool.and_true, Bool.and_self, Bool.or_true, Bool.true_or, Bool.false_or, Bool.or_false, Bool.not_true, Bool.not_false, Bool.false_and, Bool.and_false, if_true, if_false, Bool.false_eq_true, reduceIte, reduceCtorEq]
        rw [is_eq]
        simp only [ev_var, ev_any, ev_c, ev_bin, ev_binF, ev_chain, ev_un, ev_cons, ev_nil, ev_tup, ev_disp, ev_lst, ev_glo, ev_callB, ev_callF, ev_call, ev_if, ev_sl, ev_oN, ev_oS, ev_rev, ev_isa, ev_tOf, ev_tAnd, ev_tOr, ev_tNot, ev_andV, ev_orV, ev_notV, ev_upper, ev_yes, ev_comp, wipeE, notOwn, List.all_cons, List.all_nil, ev_range1, ev_range2, ev_isq, ev_zip2, ev_zip3, ev_enum, optR_some, bind_ok, Sat_ok, Sat_bind, List.getElem?_cons_zero, List.getElem?_cons_succ, List.set_cons_zero, List.set_cons_succ, List.length_cons, List.length_nil, Bool.true_and, Bool.and_true, Bool.and_self, Bool.or_true, Bool.true_or, Bool.false_or, Bool.or_false, Bool.not_true, Bool.not_false, Bool.false_and, Bool.and_false, if_true, if_false, Bool.false_eq_true, reduceIte, reduceCtorEq, decide_true]
        refine SatS.nil (SatS.seq (SatS.set ?_))
        simp only [ev_var, ev_any, ev_c, ev_bin, ev_binF, ev_chain, ev_un, ev_cons, ev_nil, ev_tup, ev_disp, ev_lst, ev_glo, ev_callB, ev_callF, ev_call, ev_if, ev_sl, ev_oN, ev_oS, ev_rev, ev_isa, ev_tOf, ev_tAnd, ev_tOr, ev_tNot, ev_andV, ev_orV, ev_notV, ev_upper, ev_yes, ev_comp, wipeE, notOwn, List.all_cons, List.all_nil, ev_range1, ev_range2, ev_isq, ev_zip2, ev_zip3, ev_enum, optR_some, bind_ok, Sat_ok, Sat_bind, List.getElem?_cons_zero, List.getElem?_cons_succ, List.set_cons_zero, List.set_cons_succ, List.length_cons, List.length_nil, Bool.true_and, Bool.and_true, Bool.and_self, Bool.or_true, Bool.true_or, Bool.false_or, Bool.or_false, Bool.not_true, Bool.not_false, Bool.false_and, Bool.and_false, if_true, if_false, Bool.false_eq_true, reduceIte, reduceCtorEq]
        have no18 : ∀ a b c d e f g h i j k l m n o p q r : SV, notOwn [a, b, c, d, e, f, g, h, i, j, k, l, m, n, o, p, q, r, s18, .un] 18 = true := fun _ _ _ _ _ _ _ _ _ _ _ _ _ _ _ _ _ _ => by
          cases s18 with
          | own o => exact absurd rfl (h18 o)
          | _ => rfl
        -- behind the due
        have fin : ∀ (g7 : G), Pool p g7 (2000 + 100 * k) → SatS
            ((sSeq (sIf (tNot' (tOf (eCall (F_law_equal 4) (aCons (eCall Fbehind_step (aCons (eVar 2) (aCons (eVar 3) (aCons (eVar 11) aNil)))) (aCons (eVar 13) aNil))))) (sRet (eC (.bl false))) sNil)
    (sSeq (sSet 14 (eTup aNil))
    (sSeq (sFor (iRange1 (eVar 4)) (.nm 15) (sSet 14 (eBin opAdd (eVar 14) (eBin opMul (eTup (aCons (eVar 15) aNil)) (eBin opIx (eVar 11) (eVar 15))))))
    (sSeq (sIf (tNot' (tOf (eCall (F_law_equal 4) (aCons (eCall Frow_of_step (aCons (eVar 11) aNil)) (aCons (eVar 14) aNil))))) (sRet (eC (.bl false))) sNil)
    (sIf (tOf (eVar 12)) (sSeq (sSet 16 (eGlo (eCallF opList (aCons (eVar 14) aNil))))
    (sSeq (sSet 17 (eTup aNil))
    (sSeq (sFor (iRange1 (eCallB opLen (aCons (eVar 14) aNil))) (.nm 18) (sSet 17 (eBin opAdd (eVar 17) (eTup (aCons (ePopG (eVar 16) (eCall F_law_draw (aCons (eVar 1) (aCons (eCallB opLen (aCons (eVar 16) aNil)) aNil)))) aNil)))))
    (sIf (tOr' (tOf (eBin opNe (eCall F_law_behind (aCons (eVar 2) (aCons (eVar 3) (aCons (eVar 17) aNil)))) (eVar 13))) (tOf (eBin opNe (eCall F_law_behind (aCons (eVar 2) (aCons (eVar 3) (aCons (eVar 14) aNil)))) (eVar 13)))) (sRet (eC (.bl false))) sNil)))) sNil)))))
            [.val (.scr (ns.map .int)), .val p, .val (netP n ds), .val (ti mk), .val (.int ds.length), .val (.int q), .val (.lst (S.map ti)), .val (.lst GR), .val (ti dr), s9, s10, .val (ti r), .val (.bl (leB (takenL (·.1) n r ds) mk)), .val (if leB (takenL (·.1) n r ds) mk then ti (stepL mk (takenL (·.1) n r ds) (takenL (·.2) n r ds)) else .non), s14, s15, s16, s17, s18, .un] g7)
            (fun e g' => Pool p g' (2000 + 100 * (k + 1)) ∧ ∃ s9 s10 s11 s12 s13 s14 s15 s16 s17 s18 : SV, (∀ o, s18 ≠ .own o) ∧ e = [.val (.scr (ns.map .int)), .val p, .val (netP n ds), .val (ti mk), .val (.int ds.length), .val (.int q), .val (.lst (S.map ti)), .val (.lst GR), .val (ti dr), s9, s10, s11, s12, s13, s14, s15, s16, s17, s18, .un]) (fun v _ => v = .bl true) := by
          intro g7 hp7
          refine SatS.seq (SatS.ite ?_)
          simp only [ev_var, ev_any, ev_c, ev_bin, ev_binF, ev_chain, ev_un, ev_cons, ev_nil, ev_tup, ev_disp, ev_lst, ev_glo, ev_callB, ev_callF, ev_call, ev_if, ev_sl, ev_oN, ev_oS, ev_rev, ev_isa, ev_tOf, ev_tAnd, ev_tOr, ev_tNot, ev_andV, ev_orV, ev_notV, ev_upper, ev_yes, ev_comp, wipeE, notOwn, List.all_cons, List.all_nil, ev_range1, ev_range2, ev_isq, ev_zip2, ev_zip3, ev_enum, optR_some, bind_ok, Sat_ok, Sat_bind, List.getElem?_cons_zero, List.getElem?_cons_succ, List.set_cons_zero, List.set_cons_succ, List.length_cons, List.length_nil, Bool.true_and, Bool.and_true, Bool.and_self, Bool.or_true, Bool.true_or, Bool.false_or, Bool.or_false, Bool.not_true, Bool.not_false, Bool.false_and, Bool.and_false, if_true, if_false, Bool.false_eq_true, reduceIte, reduceCtorEq]
          rw [hbeh]
          simp only [ev_var, ev_any, ev_c, ev_bin, ev_binF, ev_chain, ev_un, ev_cons, ev_nil, ev_tup, ev_disp, ev_lst, ev_glo, ev_callB, ev_callF, ev_call, ev_if, ev_sl, ev_oN, ev_oS, ev_rev, ev_isa, ev_tOf, ev_tAnd, ev_tOr, ev_tNot, ev_andV, ev_orV, ev_notV, ev_upper, ev_yes, ev_comp, wipeE, notOwn, List.all_cons, List.all_nil, ev_range1, ev_range2, ev_isq, ev_zip2, ev_zip3, ev_enum, optR_some, bind_ok, Sat_ok, Sat_bind, List.getElem?_cons_zero, List.getElem?_cons_succ, List.set_cons_zero, List.set_cons_succ, List.length_cons, List.length_nil, Bool.true_and, Bool.and_true, Bool.and_self, Bool.or_true, Bool.true_or, Bool.false_or, Bool.or_false, Bool.not_true, Bool.not_false, Bool.false_and, Bool.and_false, if_true, if_false, Bool.false_eq_true, reduceIte, reduceCtorEq]
          have hdue : eqOk 1 (if leB (takenL (·.1) n r ds) mk = true then ti (stepL mk (takenL (·.1) n r ds) (takenL (·.2) n r ds)) else .non) := by
            split
            · exact eqOk_ti _ (by rw [stepL_len hmk.len t1 t2]; omega)
            · exact .inl rfl
          rw [equal_refl 1 4 _ _ (by omega) hdue]
          simp only [ev_var, ev_any, ev_c, ev_bin, ev_binF, ev_chain, ev_un, ev_cons, ev_nil, ev_tup, ev_disp, ev_lst, ev_glo, ev_callB, ev_callF, ev_call, ev_if, ev_sl, ev_oN, ev_oS, ev_rev, ev_isa, ev_tOf, ev_tAnd, ev_tOr, ev_tNot, ev_andV, ev_orV, ev_notV, ev_upper, ev_yes, ev_comp, wipeE, notOwn, List.all_cons, List.all_nil, ev_range1, ev_range2, ev_isq, ev_zip2, ev_zip3, ev_enum, optR_some, bind_ok, Sat_ok, Sat_bind, List.getElem?_cons_zero, List.getElem?_cons_succ, List.set_cons_zero, List.set_cons_succ, List.length_cons, List.length_nil, Bool.true_and, Bool.and_true, Bool.and_self, Bool.or_true, Bool.true_or, Bool.false_or, Bool.or_false, Bool.not_true, Bool.not_false, Bool.false_and, Bool.and_false, if_true, if_false, Bool.false_eq_true, reduceIte, reduceCtorEq]
          refine SatS.nil (SatS.seq (SatS.set ?_))
          simp only [ev_var, ev_any, ev_c, ev_bin, ev_binF, ev_chain, ev_un, ev_cons, ev_nil, ev_tup, ev_disp, ev_lst, ev_glo, ev_callB, ev_callF, ev_call, ev_if, ev_sl, ev_oN, ev_oS, ev_rev, ev_isa, ev_tOf, ev_tAnd, ev_tOr, ev_tNot, ev_andV, ev_orV, ev_notV, ev_upper, ev_yes, ev_comp, wipeE, notOwn, List.all_cons, List.all_nil, ev_range1, ev_range2, ev_isq, ev_zip2, ev_zip3, ev_enum, optR_some, bind_ok, Sat_ok, Sat_bind, List.getElem?_cons_zero, List.getElem?_cons_succ, List.set_cons_zero, List.set_cons_succ, List.length_cons, List.length_nil, Bool.true_and, Bool.and_true, Bool.and_self, Bool.or_true, Bool.true_or, Bool.false_or, Bool.or_false, Bool.not_true, Bool.not_false, Bool.false_and, Bool.and_false, if_true, if_false, Bool.false_eq_true, reduceIte, reduceCtorEq, fits1000 (show 0 ≤ 1000000 by omega)]
          refine SatS.seq (SatS.for_ ?_)
          simp only [ev_var, ev_any, ev_c, ev_bin, ev_binF, ev_chain, ev_un, ev_cons, ev_nil, ev_tup, ev_disp, ev_lst, ev_glo, ev_callB, ev_callF, ev_call, ev_if, ev_sl, ev_oN, ev_oS, ev_rev, ev_isa, ev_tOf, ev_tAnd, ev_tOr, ev_tNot, ev_andV, ev_orV, ev_notV, ev_upper, ev_yes, ev_comp, wipeE, notOwn, List.all_cons, List.all_nil, ev_range1, ev_range2, ev_isq, ev_zip2, ev_zip3, ev_enum, optR_some, bind_ok, Sat_ok, Sat_bind, List.getElem?_cons_zero, List.getElem?_cons_succ, List.set_cons_zero, List.set_cons_succ, List.length_cons, List.length_nil, Bool.true_and, Bool.and_true, Bool.and_self, Bool.or_true, Bool.true_or, Bool.false_or, Bool.or_false, Bool.not_true, Bool.not_false, Bool.false_and, Bool.and_false, if_true, if_false, Bool.false_eq_true, reduceIte, reduceCtorEq, rg1 (show (0 : Int) ≤ ds.length by omega), rg2 (show (ds.length : Int) ≤ 1000000 by omega)]
          refine sat_for (fun j e g' => Pool p g' (2000 + 100 * k) ∧ ∃ s15 : SV, e = [.val (.scr (ns.map .int)), .val p, .val (netP n ds), .val (ti mk), .val (.int ds.length), .val (.int q), .val (.lst (S.map ti)), .val (.lst GR), .val (ti dr), s9, s10, .val (ti r), .val (.bl (leB (takenL (·.1) n r ds) mk)), .val (if leB (takenL (·.1) n r ds) mk then ti (stepL mk (takenL (·.1) n r ds) (takenL (·.2) n r ds)) else .non), .val (rowP (rowL r j)), s15, s16, s17, s18, .un]) ?_ ?_ ⟨hp7, _, rfl⟩
          · rintro j x e g8 hx ⟨hp8, s15, rfl⟩
            obtain ⟨rfl, hj, hj'⟩ := range_at hx
            rw [Int.toNat_natCast] at hj'
            have hjr : j < r.length := by omega
            refine ⟨_, rfl, SatS.set ?_⟩
            simp only [ev_var, ev_any, ev_c, ev_bin, ev_binF, ev_chain, ev_un, ev_cons, ev_nil, ev_tup, ev_disp, ev_lst, ev_glo, ev_callB, ev_callF, ev_call, ev_if, ev_sl, ev_oN, ev_oS, ev_rev, ev_isa, ev_tOf, ev_tAnd, ev_tOr, ev_tNot, ev_andV, ev_orV, ev_notV, ev_upper, ev_yes, ev_comp, wipeE, notOwn, List.all_cons, List.all_nil, ev_range1, ev_range2, ev_isq, ev_zip2, ev_zip3, ev_enum, optR_some, bind_ok, Sat_ok, Sat_bind, List.getElem?_cons_zero, List.getElem?_cons_succ, List.set_cons_zero, List.set_cons_succ, List.length_cons, List.length_nil, Bool.true_and, Bool.and_true, Bool.and_self, Bool.or_true, Bool.true_or, Bool.false_or, Bool.or_false, Bool.not_true, Bool.not_false, Bool.false_and, Bool.and_false, if_true, if_false, Bool.false_eq_true, reduceIte, reduceCtorEq, ix_tup, getI hjr, fits1000 (show 1 ≤ 1000000 by omega)]
            obtain ⟨w, hw1, hw2⟩ := row_step hrb hjr (by omega) [.val (.scr (ns.map .int)), .val p, .val (netP n ds), .val (ti mk), .val (.int ds.length), .val (.int q), .val (.lst (S.map ti)), .val (.lst GR), .val (ti dr), s9, s10, .val (ti r), .val (.bl (leB (takenL (·.1) n r ds) mk)), .val (if leB (takenL (·.1) n r ds) mk then ti (stepL mk (takenL (·.1) n r ds) (takenL (·.2) n r ds)) else .non), .val (rowP (rowL r j)), .val (.int (j : Int)), s16, s17, s18, .un] g8
            rw [hw1]
            simp only [ev_var, ev_any, ev_c, ev_bin, ev_binF, ev_chain, ev_un, ev_cons, ev_nil, ev_tup, ev_disp, ev_lst, ev_glo, ev_callB, ev_callF, ev_call, ev_if, ev_sl, ev_oN, ev_oS, ev_rev, ev_isa, ev_tOf, ev_tAnd, ev_tOr, ev_tNot, ev_andV, ev_orV, ev_notV, ev_upper, ev_yes, ev_comp, wipeE, notOwn, List.all_cons, List.all_nil, ev_range1, ev_range2, ev_isq, ev_zip2, ev_zip3, ev_enum, optR_some, bind_ok, Sat_ok, Sat_bind, List.getElem?_cons_zero, List.getElem?_cons_succ, List.set_cons_zero, List.set_cons_succ, List.length_cons, List.length_nil, Bool.true_and, Bool.and_true, Bool.and_self, Bool.or_true, Bool.true_or, Bool.false_or, Bool.or_false, Bool.not_true, Bool.not_false, Bool.false_and, Bool.and_false, if_true, if_false, Bool.false_eq_true, reduceIte, reduceCtorEq]
            rw [hw2]
            simp only [ev_var, ev_any, ev_c, ev_bin, ev_binF, ev_chain, ev_un, ev_cons, ev_nil, ev_tup, ev_disp, ev_lst, ev_glo, ev_callB, ev_callF, ev_call, ev_if, ev_sl, ev_oN, ev_oS, ev_rev, ev_isa, ev_tOf, ev_tAnd, ev_tOr, ev_tNot, ev_andV, ev_orV, ev_notV, ev_upper, ev_yes, ev_comp, wipeE, notOwn, List.all_cons, List.all_nil, ev_range1, ev_range2, ev_isq, ev_zip2, ev_zip3, ev_enum, optR_some, bind_ok, Sat_ok, Sat_bind, List.getElem?_cons_zero, List.getElem?_cons_succ, List.set_cons_zero, List.set_cons_succ, List.length_cons, List.length_nil, Bool.true_and, Bool.and_true, Bool.and_self, Bool.or_true, Bool.true_or, Bool.false_or, Bool.or_false, Bool.not_true, Bool.not_false, Bool.false_and, Bool.and_false, if_true, if_false, Bool.false_eq_true, reduceIte, reduceCtorEq]
            exact ⟨hp8, _, rfl⟩
          · rintro e g8 ⟨hp8, s15, rfl⟩
            rw [rangeN_len]
            have hrow : rowL r ds.length = rowL r r.length := by rw [hrl]
            refine SatS.seq (SatS.ite ?_)
            simp only [ev_var, ev_any, ev_c, ev_bin, ev_binF, ev_chain, ev_un, ev_cons, ev_nil, ev_tup, ev_disp, ev_lst, ev_glo, ev_callB, ev_callF, ev_call, ev_if, ev_sl, ev_oN, ev_oS, ev_rev, ev_isa, ev_tOf, ev_tAnd, ev_tOr, ev_tNot, ev_andV, ev_orV, ev_notV, ev_upper, ev_yes, ev_comp, wipeE, notOwn, List.all_cons, List.all_nil, ev_range1, ev_range2, ev_isq, ev_zip2, ev_zip3, ev_enum, optR_some, bind_ok, Sat_ok, Sat_bind, List.getElem?_cons_zero, List.getElem?_cons_succ, List.set_cons_zero, List.set_cons_succ, List.length_cons, List.length_nil, Bool.true_and, Bool.and_true, Bool.and_self, Bool.or_true, Bool.true_or, Bool.false_or, Bool.or_false, Bool.not_true, Bool.not_false, Bool.false_and, Bool.and_false, if_true, if_false, Bool.false_eq_true, reduceIte, reduceCtorEq]
            rw [row_of_step_eq hrb (by omega)]
            simp only [ev_var, ev_any, ev_c, ev_bin, ev_binF, ev_chain, ev_un, ev_cons, ev_nil, ev_tup, ev_disp, ev_lst, ev_glo, ev_callB, ev_callF, ev_call, ev_if, ev_sl, ev_oN, ev_oS, ev_rev, ev_isa, ev_tOf, ev_tAnd, ev_tOr, ev_tNot, ev_andV, ev_orV, ev_notV, ev_upper, ev_yes, ev_comp, wipeE, notOwn, List.all_cons, List.all_nil, ev_range1, ev_range2, ev_isq, ev_zip2, ev_zip3, ev_enum, optR_some, bind_ok, Sat_ok, Sat_bind, List.getElem?_cons_zero, List.getElem?_cons_succ, List.set_cons_zero, List.set_cons_succ, List.length_cons, List.length_nil, Bool.true_and, Bool.and_true, Bool.and_self, Bool.or_true, Bool.true_or, Bool.false_or, Bool.or_false, Bool.not_true, Bool.not_false, Bool.false_and, Bool.and_false, if_true, if_false, Bool.false_eq_true, reduceIte, reduceCtorEq]
            have hrll := rowL_len hrb ds.length
            rw [hrow, equal_refl 1 4 _ _ (by omega) (eqOk_row _ (by rw [← hrow]; omega))]
            simp only [ev_var, ev_any, ev_c, ev_bin, ev_binF, ev_chain, ev_un, ev_cons, ev_nil, ev_tup, ev_disp, ev_lst, ev_glo, ev_callB, ev_callF, ev_call, ev_if, ev_sl, ev_oN, ev_oS, ev_rev, ev_isa, ev_tOf, ev_tAnd, ev_tOr, ev_tNot, ev_andV, ev_orV, ev_notV, ev_upper, ev_yes, ev_comp, wipeE, notOwn, List.all_cons, List.all_nil, ev_range1, ev_range2, ev_isq, ev_zip2, ev_zip3, ev_enum, optR_some, bind_ok, Sat_ok, Sat_bind, List.getElem?_cons_zero, List.getElem?_cons_succ, List.set_cons_zero, List.set_cons_succ, List.length_cons, List.length_nil, Bool.true_and, Bool.and_true, Bool.and_self, Bool.or_true, Bool.true_or, Bool.false_or, Bool.or_false, Bool.not_true, Bool.not_false, Bool.false_and, Bool.and_false, if_true, if_false, Bool.false_eq_true, reduceIte, reduceCtorEq]
            refine SatS.nil (SatS.ite ?_)
            simp only [ev_var, ev_any, ev_c, ev_bin, ev_binF, ev_chain, ev_un, ev_cons, ev_nil, ev_tup, ev_disp, ev_lst, ev_glo, ev_callB, ev_callF, ev_call, ev_if, ev_sl, ev_oN, ev_oS, ev_rev, ev_isa, ev_tOf, ev_tAnd, ev_tOr, ev_tNot, ev_andV, ev_orV, ev_notV, ev_upper, ev_yes, ev_comp, wipeE, notOwn, List.all_cons, List.all_nil, ev_range1, ev_range2, ev_isq, ev_zip2, ev_zip3, ev_enum, optR_some, bind_ok, Sat_ok, Sat_bind, List.getElem?_cons_zero, List.getElem?_cons_succ, List.set_cons_zero, List.set_cons_succ, List.length_cons, List.length_nil, Bool.true_and, Bool.and_true, Bool.and_self, Bool.or_true, Bool.true_or, Bool.false_or, Bool.or_false, Bool.not_true, Bool.not_false, Bool.false_and, Bool.and_false, if_true, if_false, Bool.false_eq_true, reduceIte, reduceCtorEq]
            cases hc : leB (takenL (·.1) n r ds) mk with
            | false =>
              exact SatS.nil ⟨hp8.mono (by omega), _, _, _, _, _, _, _, _, _, _, h18, rfl⟩
            | true =>
              rw [← hrow]
              have hX : ∀ l : List Nat, l.Perm (rowL r ds.length) → runL ds mk l = some (stepL mk (takenL (·.1) n r ds) (takenL (·.2) n r ds)) := fun l hl => any_order N hmk.len hrl (fun x hx => (hrb x hx).1) hc hl
              have hXl := stepL_len hmk.len t1 t2
              generalize stepL mk (takenL (·.1) n r ds) (takenL (·.2) n r ds) = X at hX hXl
              simp only [if_true]
              refine SatS.seq (SatS.set ?_)
              simp only [ev_var, ev_any, ev_c, ev_bin, ev_binF, ev_chain, ev_un, ev_cons, ev_nil, ev_tup, ev_disp, ev_lst, ev_glo, ev_callB, ev_callF, ev_call, ev_if, ev_sl, ev_oN, ev_oS, ev_rev, ev_isa, ev_tOf, ev_tAnd, ev_tOr, ev_tNot, ev_andV, ev_orV, ev_notV, ev_upper, ev_yes, ev_comp, wipeE, notOwn, List.all_cons, List.all_nil, ev_range1, ev_range2, ev_isq, ev_zip2, ev_zip3, ev_enum, optR_some, bind_ok, Sat_ok, Sat_bind, List.getElem?_cons_zero, List.getElem?_cons_succ, List.set_cons_zero, List.set_cons_succ, List.length_cons, List.length_nil, Bool.true_and, Bool.and_true, Bool.and_self, Bool.or_true, Bool.true_or, Bool.false_or, Bool.or_false, Bool.not_true, Bool.not_false, Bool.false_and, Bool.and_false, if_true, if_false, Bool.false_eq_true, reduceIte, reduceCtorEq, opAdd, opSub, opMul, opDiv, opMod, opNeg, opI, opLt, opLe, opGt, opGe, opEq, opNe, opEq_int, opIs, opIsnot, opIsB, isNonP, opIx, opLen, opTuple, opList, opInt, opAbs, opStr, opSum, opMax, opMin, opMM, opAny, opAll, opAA, asSeq, asLst, top, frSeq, kdP, isa, id_eq, Option.map_some, Option.bind_some]
              refine SatS.seq (SatS.set ?_)
              simp only [ev_var, ev_any, ev_c, ev_bin, ev_binF, ev_chain, ev_un, ev_cons, ev_nil, ev_tup, ev_disp, ev_lst, ev_glo, ev_callB, ev_callF, ev_call, ev_if, ev_sl, ev_oN, ev_oS, ev_rev, ev_isa, ev_tOf, ev_tAnd, ev_tOr, ev_tNot, ev_andV, ev_orV, ev_notV, ev_upper, ev_yes, ev_comp, wipeE, notOwn, List.all_cons, List.all_nil, ev_range1, ev_range2, ev_isq, ev_zip2, ev_zip3, ev_enum, optR_some, bind_ok, Sat_ok, Sat_bind, List.getElem?_cons_zero, List.getElem?_cons_succ, List.set_cons_zero, List.set_cons_succ, List.length_cons, List.length_nil, Bool.true_and, Bool.and_true, Bool.and_self, Bool.or_true, Bool.true_or, Bool.false_or, Bool.or_false, Bool.not_true, Bool.not_false, Bool.false_and, Bool.and_false, if_true, if_false, Bool.false_eq_true, reduceIte, reduceCtorEq, fits1000 (show 0 ≤ 1000000 by omega)]
              refine SatS.seq (SatS.for_ ?_)
              have hRl : (rowL r ds.length).length ≤ 10 := by omega
              simp only [ev_var, ev_any, ev_c, ev_bin, ev_binF, ev_chain, ev_un, ev_cons, ev_nil, ev_tup, ev_disp, ev_lst, ev_glo, ev_callB, ev_callF, ev_call, ev_if, ev_sl, ev_oN, ev_oS, ev_rev, ev_isa, ev_tOf, ev_tAnd, ev_tOr, ev_tNot, ev_andV, ev_orV, ev_notV, ev_upper, ev_yes, ev_comp, wipeE, notOwn, List.all_cons, List.all_nil, ev_range1, ev_range2, ev_isq, ev_zip2, ev_zip3, ev_enum, optR_some, bind_ok, Sat_ok, Sat_bind, List.getElem?_cons_zero, List.getElem?_cons_succ, List.set_cons_zero, List.set_cons_succ, List.length_cons, List.length_nil, Bool.true_and, Bool.and_true, Bool.and_self, Bool.or_true, Bool.true_or, Bool.false_or, Bool.or_false, Bool.not_true, Bool.not_false, Bool.false_and, Bool.and_false, if_true, if_false, Bool.false_eq_true, reduceIte, reduceCtorEq, opAdd, opSub, opMul, opDiv, opMod, opNeg, opI, opLt, opLe, opGt, opGe, opEq, opNe, opEq_int, opIs, opIsnot, opIsB, isNonP, opIx, opLen, opTuple, opList, opInt, opAbs, opStr, opSum, opMax, opMin, opMM, opAny, opAll, opAA, asSeq, asLst, top, frSeq, kdP, isa, id_eq, Option.map_some, Option.bind_some, List.length_map, rg1 (show (0 : Int) ≤ (rowL r ds.length).length by omega), rg2 (show ((rowL r ds.length).length : Int) ≤ 1000000 by omega)]
              have hpl := hp8.pl ((rowL r ds.length).map fun k : Nat => PV.int (k : Nat))
              generalize hR : rowL r ds.length = Rw at hX hRl hpl
              refine sat_for (fun k2 e g' => ∃ (left mixed : List Nat) (s18 : SV), (∀ o, s18 ≠ .own o) ∧ (mixed ++ left).Perm Rw ∧ left.length = Rw.length - k2 ∧ PL p g' (2000 + 100 * k + k2) g8.length (left.map fun k : Nat => PV.int (k : Nat)) ∧ e = [.val (.scr (ns.map .int)), .val p, .val (netP n ds), .val (ti mk), .val (.int ds.length), .val (.int q), .val (.lst (S.map ti)), .val (.lst GR), .val (ti dr), s9, s10, .val (ti r), .val (.bl true), .val (ti X), .val (rowP Rw), s15, .val (.ref g8.length), .val (rowP mixed), s18, .un]) ?_ ?_ ⟨Rw, [], s18, h18, List.Perm.refl _, rfl, hpl, rfl⟩
              · rintro k2 x e g9 hx ⟨left, mixed, s18, h18, hpm, hll, hPL, rfl⟩
                obtain ⟨rfl, hk2, hk2'⟩ := range_at hx
                rw [Int.toNat_natCast] at hk2'
                have hml : mixed.length + left.length = Rw.length := by rw [← List.length_append]; exact hpm.length_eq
                refine ⟨_, rfl, SatS.set ?_⟩
                simp only [ev_var, ev_any, ev_c, ev_bin, ev_binF, ev_chain, ev_un, ev_cons, ev_nil, ev_tup, ev_disp, ev_lst, ev_glo, ev_callB, ev_callF, ev_call, ev_if, ev_sl, ev_oN, ev_oS, ev_rev, ev_isa, ev_tOf, ev_tAnd, ev_tOr, ev_tNot, ev_andV, ev_orV, ev_notV, ev_upper, ev_yes, ev_comp, wipeE, notOwn, List.all_cons, List.all_nil, ev_range1, ev_range2, ev_isq, ev_zip2, ev_zip3, ev_enum, optR_some, bind_ok, Sat_ok, Sat_bind, List.getElem?_cons_zero, List.getElem?_cons_succ, List.set_cons_zero, List.set_cons_succ, List.length_cons, List.length_nil, Bool.true_and, Bool.and_true, Bool.and_self, Bool.or_true, Bool.true_or, Bool.false_or, Bool.or_false, Bool.not_true, Bool.not_false, Bool.false_and, Bool.and_false, if_true, if_false, Bool.false_eq_true, reduceIte, reduceCtorEq]
                refine sat_popG rfl hPL.at_ ?_
                simp only [ev_var, ev_any, ev_c, ev_bin, ev_binF, ev_chain, ev_un, ev_cons, ev_nil, ev_tup, ev_disp, ev_lst, ev_glo, ev_callB, ev_callF, ev_call, ev_if, ev_sl, ev_oN, ev_oS, ev_rev, ev_isa, ev_tOf, ev_tAnd, ev_tOr, ev_tNot, ev_andV, ev_orV, ev_notV, ev_upper, ev_yes, ev_comp, wipeE, notOwn, List.all_cons, List.all_nil, ev_range1, ev_range2, ev_isq, ev_zip2, ev_zip3, ev_enum, optR_some, bind_ok, Sat_ok, Sat_bind, List.getElem?_cons_zero, List.getElem?_cons_succ, List.set_cons_zero, List.set_cons_succ, List.length_cons, List.length_nil, Bool.true_and, Bool.and_true, Bool.and_self, Bool.or_true, Bool.true_or, Bool.false_or, Bool.or_false, Bool.not_true, Bool.not_false, Bool.false_and, Bool.and_false, if_true, if_false, Bool.false_eq_true, reduceIte, reduceCtorEq, opAdd, opSub, opMul, opDiv, opMod, opNeg, opI, opLt, opLe, opGt, opGe, opEq, opNe, opEq_int, opIs, opIsnot, opIsB, isNonP, opIx, opLen, opTuple, opList, opInt, opAbs, opStr, opSum, opMax, opMin, opMM, opAny, opAll, opAA, asSeq, asLst, top, frSeq, kdP, isa, id_eq, Option.map_some, Option.bind_some, hPL.at_, List.length_map]
                refine (hPL.draw (by omega) (by omega)).imp ?_
                rintro _ g10 ⟨i, rfl, i0, i1, hPL2⟩
                obtain ⟨j, rfl⟩ := nn_nat i0
                have hj : j < left.length := by omega
                refine ⟨j, _, j, .int (left[j] : Nat), rfl, hPL2.at_, by rw [List.length_map]; exact ixN_nat hj, by rw [List.getElem?_map, List.getElem?_eq_getElem hj]; rfl, ?_⟩
                simp only [ev_var, ev_any, ev_c, ev_bin, ev_binF, ev_chain, ev_un, ev_cons, ev_nil, ev_tup, ev_disp, ev_lst, ev_glo, ev_callB, ev_callF, ev_call, ev_if, ev_sl, ev_oN, ev_oS, ev_rev, ev_isa, ev_tOf, ev_tAnd, ev_tOr, ev_tNot, ev_andV, ev_orV, ev_notV, ev_upper, ev_yes, ev_comp, wipeE, notOwn, List.all_cons, List.all_nil, ev_range1, ev_range2, ev_isq, ev_zip2, ev_zip3, ev_enum, optR_some, bind_ok, Sat_ok, Sat_bind, List.getElem?_cons_zero, List.getElem?_cons_succ, List.set_cons_zero, List.set_cons_succ, List.length_cons, List.length_nil, Bool.true_and, Bool.and_true, Bool.and_self, Bool.or_true, Bool.true_or, Bool.false_or, Bool.or_false, Bool.not_true, Bool.not_false, Bool.false_and, Bool.and_false, if_true, if_false, Bool.false_eq_true, reduceIte, reduceCtorEq, fits1000 (show 1 ≤ 1000000 by omega)]
                rw [if_pos (fits1000 (by rw [List.length_map]; omega))]
                simp only [ev_var, ev_any, ev_c, ev_bin, ev_binF, ev_chain, ev_un, ev_cons, ev_nil, ev_tup, ev_disp, ev_lst, ev_glo, ev_callB, ev_callF, ev_call, ev_if, ev_sl, ev_oN, ev_oS, ev_rev, ev_isa, ev_tOf, ev_tAnd, ev_tOr, ev_tNot, ev_andV, ev_orV, ev_notV, ev_upper, ev_yes, ev_comp, wipeE, notOwn, List.all_cons, List.all_nil, ev_range1, ev_range2, ev_isq, ev_zip2, ev_zip3, ev_enum, optR_some, bind_ok, Sat_ok, Sat_bind, List.getElem?_cons_zero, List.getElem?_cons_succ, List.set_cons_zero, List.set_cons_succ, List.length_cons, List.length_nil, Bool.true_and, Bool.and_true, Bool.and_self, Bool.or_true, Bool.true_or, Bool.false_or, Bool.or_false, Bool.not_true, Bool.not_false, Bool.false_and, Bool.and_false, if_true, if_false, Bool.false_eq_true, reduceIte, reduceCtorEq]
                refine ⟨left.eraseIdx j, mixed ++ [left[j]], .val (.int (k2 : Int)), fun o z => (by cases z), ?_, ?_, ?_, by rw [show (mixed.map fun k : Nat => PV.int (k : Nat)) ++ [PV.int (left[j] : Nat)] = (mixed ++ [left[j]]).map fun k : Nat => PV.int (k : Nat) by rw [List.map_append]; rfl]⟩
                · refine List.Perm.trans ?_ hpm
                  rw [List.append_assoc]
                  exact List.Perm.append_left mixed (erase_perm hj)
                · rw [List.length_eraseIdx, if_pos hj]; omega
                · have := hPL2.set (left' := (left.map fun k : Nat => PV.int (k : Nat)).eraseIdx j)
                  rw [← erase_map]
                  exact this
              · rintro e g9 ⟨left, mixed, s18, h18, hpm, hll, hPL, rfl⟩
                rw [rangeN_len] at hll hPL
                have hnil : left = [] := List.eq_nil_of_length_eq_zero (by omega)
                subst hnil
                rw [List.append_nil] at hpm
                have hlt : ∀ l : List Nat, l.Perm Rw → ∀ k ∈ l, k < ds.length := fun l hl k hk => by
                  have := hl.mem_iff.mp hk
                  rw [← hR] at this
                  exact rowL_mem this
                refine SatS.ite ?_
                simp only [ev_var, ev_any, ev_c, ev_bin, ev_binF, ev_chain, ev_un, ev_cons, ev_nil, ev_tup, ev_disp, ev_lst, ev_glo, ev_callB, ev_callF, ev_call, ev_if, ev_sl, ev_oN, ev_oS, ev_rev, ev_isa, ev_tOf, ev_tAnd, ev_tOr, ev_tNot, ev_andV, ev_orV, ev_notV, ev_upper, ev_yes, ev_comp, wipeE, notOwn, List.all_cons, List.all_nil, ev_range1, ev_range2, ev_isq, ev_zip2, ev_zip3, ev_enum, optR_some, bind_ok, Sat_ok, Sat_bind, List.getElem?_cons_zero, List.getElem?_cons_succ, List.set_cons_zero, List.set_cons_succ, List.length_cons, List.length_nil, Bool.true_and, Bool.and_true, Bool.and_self, Bool.or_true, Bool.true_or, Bool.false_or, Bool.or_false, Bool.not_true, Bool.not_false, Bool.false_and, Bool.and_false, if_true, if_false, Bool.false_eq_true, reduceIte, reduceCtorEq]
                rw [lbehind_eq N mk hmk.len mixed (hlt mixed hpm), hX mixed hpm]
                simp only [ev_var, ev_any, ev_c, ev_bin, ev_binF, ev_chain, ev_un, ev_cons, ev_nil, ev_tup, ev_disp, ev_lst, ev_glo, ev_callB, ev_callF, ev_call, ev_if, ev_sl, ev_oN, ev_oS, ev_rev, ev_isa, ev_tOf, ev_tAnd, ev_tOr, ev_tNot, ev_andV, ev_orV, ev_notV, ev_upper, ev_yes, ev_comp, wipeE, notOwn, List.all_cons, List.all_nil, ev_range1, ev_range2, ev_isq, ev_zip2, ev_zip3, ev_enum, optR_some, bind_ok, Sat_ok, Sat_bind, List.getElem?_cons_zero, List.getElem?_cons_succ, List.set_cons_zero, List.set_cons_succ, List.length_cons, List.length_nil, Bool.true_and, Bool.and_true, Bool.and_self, Bool.or_true, Bool.true_or, Bool.false_or, Bool.or_false, Bool.not_true, Bool.not_false, Bool.false_and, Bool.and_false, if_true, if_false, Bool.false_eq_true, reduceIte, reduceCtorEq, oP, opNe, eq_ti, beq_self_eq_true]
                rw [lbehind_eq N mk hmk.len Rw (hlt Rw (List.Perm.refl _)), hX Rw (List.Perm.refl _)]
                simp only [ev_var, ev_any, ev_c, ev_bin, ev_binF, ev_chain, ev_un, ev_cons, ev_nil, ev_tup, ev_disp, ev_lst, ev_glo, ev_callB, ev_callF, ev_call, ev_if, ev_sl, ev_oN, ev_oS, ev_rev, ev_isa, ev_tOf, ev_tAnd, ev_tOr, ev_tNot, ev_andV, ev_orV, ev_notV, ev_upper, ev_yes, ev_comp, wipeE, notOwn, List.all_cons, List.all_nil, ev_range1, ev_range2, ev_isq, ev_zip2, ev_zip3, ev_enum, optR_some, bind_ok, Sat_ok, Sat_bind, List.getElem?_cons_zero, List.getElem?_cons_succ, List.set_cons_zero, List.set_cons_succ, List.length_cons, List.length_nil, Bool.true_and, Bool.and_true, Bool.and_self, Bool.or_true, Bool.true_or, Bool.false_or, Bool.or_false, Bool.not_true, Bool.not_false, Bool.false_and, Bool.and_false, if_true, if_false, Bool.false_eq_true, reduceIte, reduceCtorEq, oP, opNe, eq_ti, beq_self_eq_true]
                exact SatS.nil ⟨hPL.pool.mono (by omega), _, _, _, _, _, _, _, _, _, _, h18, rfl⟩
        refine SatS.seq (SatS.ite ?_)
        simp only [ev_var, ev_any, ev_c, ev_bin, ev_binF, ev_chain, ev_un, ev_cons, ev_nil, ev_tup, ev_disp, ev_lst, ev_glo, ev_callB, ev_callF, ev_call, ev_if, ev_sl, ev_oN, ev_oS, ev_rev, ev_isa, ev_tOf, ev_tAnd, ev_tOr, ev_tNot, ev_andV, ev_orV, ev_notV, ev_upper, ev_yes, ev_comp, wipeE, notOwn, List.all_cons, List.all_nil, ev_range1, ev_range2, ev_isq, ev_zip2, ev_zip3, ev_enum, optR_some, bind_ok, Sat_ok, Sat_bind, List.getElem?_cons_zero, List.getElem?_cons_succ, List.set_cons_zero, List.set_cons_succ, List.length_cons, List.length_nil, Bool.true_and, Bool.and_true, Bool.and_self, Bool.or_true, Bool.true_or, Bool.false_or, Bool.or_false, Bool.not_true, Bool.not_false, Bool.false_and, Bool.and_false, if_true, if_false, Bool.false_eq_true, reduceIte, reduceCtorEq]
        have fin6 := fin g6 hp6
        cases hc : leB (takenL (·.1) n r ds) mk with
        | false =>
          simp only [hc, Bool.false_eq_true, if_false] at fin6
          exact SatS.nil fin6
        | true =>
          simp only [hc, if_true] at fin6
          refine SatS.set ?_
          simp only [ev_var, ev_any, ev_c, ev_bin, ev_binF, ev_chain, ev_un, ev_cons, ev_nil, ev_tup, ev_disp, ev_lst, ev_glo, ev_callB, ev_callF, ev_call, ev_if, ev_sl, ev_oN, ev_oS, ev_rev, ev_isa, ev_tOf, ev_tAnd, ev_tOr, ev_tNot, ev_andV, ev_orV, ev_notV, ev_upper, ev_yes, ev_comp, wipeE, List.all_cons, List.all_nil, ev_range1, ev_range2, ev_isq, ev_zip2, ev_zip3, ev_enum, optR_some, bind_ok, Sat_ok, Sat_bind, List.getElem?_cons_zero, List.getElem?_cons_succ, List.set_cons_zero, List.set_cons_succ, List.length_cons, List.length_nil, Bool.true_and, Bool.and_true, Bool.and_self, Bool.or_true, Bool.true_or, Bool.false_or, Bool.or_false, Bool.not_true, Bool.not_false, Bool.false_and, Bool.and_false, if_true, if_false, Bool.false_eq_true, reduceIte, reduceCtorEq, no18, show atI [PV.int n, PV.tup (ds.map dp)] 0 = some (PV.int n) from rfl, ix_tup, rg1 (show (0 : Int) ≤ n by omega), rg2 (show (n : Int) ≤ 1000000 by omega)]
          rw [map_range, comp_all (fun j : Nat => PV.int (j : Nat)) (fun j => PV.int (mk.getD j 0 - (takenL (·.1) n r ds).getD j 0 + (takenL (·.2) n r ds).getD j 0)) (fun j hj => ⟨_, rfl, ?_⟩)]
          · rw [stepL_range hmk.len t1 t2]
            simp only [ev_var, ev_any, ev_c, ev_bin, ev_binF, ev_chain, ev_un, ev_cons, ev_nil, ev_tup, ev_disp, ev_lst, ev_glo, ev_callB, ev_callF, ev_call, ev_if, ev_sl, ev_oN, ev_oS, ev_rev, ev_isa, ev_tOf, ev_tAnd, ev_tOr, ev_tNot, ev_andV, ev_orV, ev_notV, ev_upper, ev_yes, ev_comp, wipeE, notOwn, List.all_cons, List.all_nil, ev_range1, ev_range2, ev_isq, ev_zip2, ev_zip3, ev_enum, optR_some, bind_ok, Sat_ok, Sat_bind, List.getElem?_cons_zero, List.getElem?_cons_succ, List.set_cons_zero, List.set_cons_succ, List.length_cons, List.length_nil, Bool.true_and, Bool.and_true, Bool.and_self, Bool.or_true, Bool.true_or, Bool.false_or, Bool.or_false, Bool.not_true, Bool.not_false, Bool.false_and, Bool.and_false, if_true, if_false, Bool.false_eq_true, reduceIte, reduceCtorEq, opAdd, opSub, opMul, opDiv, opMod, opNeg, opI, opLt, opLe, opGt, opGe, opEq, opNe, opEq_int, opIs, opIsnot, opIsB, isNonP, opIx, opLen, opTuple, opList, opInt, opAbs, opStr, opSum, opMax, opMin, opMM, opAny, opAll, opAA, asSeq, asLst, top, frSeq, kdP, isa, id_eq, Option.map_some, Option.bind_some]
            exact fin6
          · have hj := List.mem_range.mp hj
            have j0 : j < mk.length := by rw [hmk.len]; exact hj
            have j1 : j < (takenL (·.1) n r ds).length := by rw [t1]; exact hj
            have j2 : j < (takenL (·.2) n r ds).length := by rw [t2]; exact hj
            simp only [ev_var, ev_any, ev_c, ev_bin, ev_binF, ev_chain, ev_un, ev_cons, ev_nil, ev_tup, ev_disp, ev_lst, ev_glo, ev_callB, ev_callF, ev_call, ev_if, ev_sl, ev_oN, ev_oS, ev_rev, ev_isa, ev_tOf, ev_tAnd, ev_tOr, ev_tNot, ev_andV, ev_orV, ev_notV, ev_upper, ev_yes, ev_comp, wipeE, notOwn, List.all_cons, List.all_nil, ev_range1, ev_range2, ev_isq, ev_zip2, ev_zip3, ev_enum, optR_some, bind_ok, Sat_ok, Sat_bind, List.getElem?_cons_zero, List.getElem?_cons_succ, List.set_cons_zero, List.set_cons_succ, List.length_cons, List.length_nil, Bool.true_and, Bool.and_true, Bool.and_self, Bool.or_true, Bool.true_or, Bool.false_or, Bool.or_false, Bool.not_true, Bool.not_false, Bool.false_and, Bool.and_false, if_true, if_false, Bool.false_eq_true, reduceIte, reduceCtorEq, ix_tup, getI j0]
            rw [lt0]
            simp only [ev_var, ev_any, ev_c, ev_bin, ev_binF, ev_chain, ev_un, ev_cons, ev_nil, ev_tup, ev_disp, ev_lst, ev_glo, ev_callB, ev_callF, ev_call, ev_if, ev_sl, ev_oN, ev_oS, ev_rev, ev_isa, ev_tOf, ev_tAnd, ev_tOr, ev_tNot, ev_andV, ev_orV, ev_notV, ev_upper, ev_yes, ev_comp, wipeE, notOwn, List.all_cons, List.all_nil, ev_range1, ev_range2, ev_isq, ev_zip2, ev_zip3, ev_enum, optR_some, bind_ok, Sat_ok, Sat_bind, List.getElem?_cons_zero, List.getElem?_cons_succ, List.set_cons_zero, List.set_cons_succ, List.length_cons, List.length_nil, Bool.true_and, Bool.and_true, Bool.and_self, Bool.or_true, Bool.true_or, Bool.false_or, Bool.or_false, Bool.not_true, Bool.not_false, Bool.false_and, Bool.and_false, if_true, if_false, Bool.false_eq_true, reduceIte, reduceCtorEq, ix_tup, getI j1, opSub]
            rw [lt1]
            simp only [ev_var, ev_any, ev_c, ev_bin, ev_binF, ev_chain, ev_un, ev_cons, ev_nil, ev_tup, ev_disp, ev_lst, ev_glo, ev_callB, ev_callF, ev_call, ev_if, ev_sl, ev_oN, ev_oS, ev_rev, ev_isa, ev_tOf, ev_tAnd, ev_tOr, ev_tNot, ev_andV, ev_orV, ev_notV, ev_upper, ev_yes, ev_comp, wipeE, notOwn, List.all_cons, List.all_nil, ev_range1, ev_range2, ev_isq, ev_zip2, ev_zip3, ev_enum, optR_some, bind_ok, Sat_ok, Sat_bind, List.getElem?_cons_zero, List.getElem?_cons_succ, List.set_cons_zero, List.set_cons_succ, List.length_cons, List.length_nil, Bool.true_and, Bool.and_true, Bool.and_self, Bool.or_true, Bool.true_or, Bool.false_or, Bool.or_false, Bool.not_true, Bool.not_false, Bool.false_and, Bool.and_false, if_true, if_false, Bool.false_eq_true, reduceIte, reduceCtorEq, ix_tup, getI j2, add_int]
            rw [List.getD_eq_getElem?_getD, List.getD_eq_getElem?_getD, List.getD_eq_getElem?_getD, List.getElem?_eq_getElem j0, List.getElem?_eq_getElem j1, List.getElem?_eq_getElem j2]; rfl
    · rintro e g6 ⟨hp6, s9, s10, s11, s12, s13, s14, s15, s16, s17, s18, h18, rfl⟩
      refine SatS.ret ?_
      simp only [ev_var, ev_any, ev_c, ev_bin, ev_binF, ev_chain, ev_un, ev_cons, ev_nil, ev_tup, ev_disp, ev_lst, ev_glo, ev_callB, ev_callF, ev_call, ev_if, ev_sl, ev_oN, ev_oS, ev_rev, ev_isa, ev_tOf, ev_tAnd, ev_tOr, ev_tNot, ev_andV, ev_orV, ev_notV, ev_upper, ev_yes, ev_comp, wipeE, notOwn, List.all_cons, List.all_nil, ev_range1, ev_range2, ev_isq, ev_zip2, ev_zip3, ev_enum, optR_some, bind_ok, Sat_ok, Sat_bind, List.getElem?_cons_zero, List.getElem?_cons_succ, List.set_cons_zero, List.set_cons_succ, List.length_cons, List.length_nil, Bool.true_and, Bool.and_true, Bool.and_self, Bool.or_true, Bool.true_or, Bool.false_or, Bool.or_false, Bool.not_true, Bool.not_false, Bool.false_and, Bool.and_false, if_true, if_false, Bool.false_eq_true, reduceIte, reduceCtorEq]

end K24
set_option maxHeartbeats 4000000
namespace K24
open PySem L2 Q
def top (i : Nat) : Stmt := PySem.Challenge.pw_tokenhalls_k24_whole_steps_of_deeds_at_o.main.body.getD i (.Pass ⟨0, 0, 0, 0⟩)
structure Txt (K : PySem.W.Frag) (mg : MG) : Prop where
  z_all : mg "all" = none
  z_any : mg "any" = none
  z_bool : mg "bool" = none
  z_enumerate : mg "enumerate" = none
  z_int : mg "int" = none
  z_isinstance : mg "isinstance" = none
  z_len : mg "len" = none
  z_list : mg "list" = none
  z_max : mg "max" = none
  z_min : mg "min" = none
  z_range : mg "range" = none
  z_sorted : mg "sorted" = none
  z_str : mg "str" = none
  z_sum : mg "sum" = none
  z_tuple : mg "tuple" = none
  z_zip : mg "zip" = none
  k_MOST_TIMES : ∃ t, mg "MOST_TIMES" = some (.int 9 t)
  d_is_integer : At K mg "is_integer" (top 1) ["value"]
  d_is_number : At K mg "is_number" (top 2) ["value", "low", "high"]
  d_is_tuple : At K mg "is_tuple" (top 3) ["value", "size"]
  d_plus : At K mg "plus" (top 5) ["a", "b"]
  d_is_within : At K mg "is_within" (top 6) ["a", "b"]
  d_is_step : At K mg "is_step" (top 9) ["net", "value"]
  d_taken_by : At K mg "taken_by" (top 10) ["net", "step"]
  d_given_by : At K mg "given_by" (top 11) ["net", "step"]
  d_can_step : At K mg "can_step" (top 12) ["net", "marking", "step"]
  d_behind_step : At K mg "behind_step" (top 13) ["net", "marking", "step"]
  d_steps_at : At K mg "steps_at" (top 14) ["net", "marking", "most"]
  d_greatest_steps : At K mg "greatest_steps" (top 15) ["net", "marking", "most"]
  d_row_of_step : At K mg "row_of_step" (top 16) ["step"]
  d__law_cell : At K mg "_law_cell" (top 18) ["script", "k"]
  d__law_numbers : At K mg "_law_numbers" (top 19) ["cell", "many"]
  d__law_pool : At K mg "_law_pool" (top 20) ["script"]
  d__law_draw : At K mg "_law_draw" (top 21) ["pool", "many"]
  d__law_kind : At K mg "_law_kind" (top 22) ["x"]
  d__law_equal : At K mg "_law_equal" (top 23) ["x", "due"]
  d__law_is : At K mg "_law_is" (top 24) ["x", "due"]
  d__law_int : At K mg "_law_int" (top 25) ["x", "low", "high"]
  d__law_ints : At K mg "_law_ints" (top 26) ["x", "low", "high"]
  d__law_bent : At K mg "_law_bent" (top 27) ["pool", "value"]
  d__law_bends : At K mg "_law_bends" (top 28) ["pool", "value", "many"]
  d__law_side : At K mg "_law_side" (top 29) ["pool", "places", "weight", "lean"]
  d__law_free_net : At K mg "_law_free_net" (top 30) ["pool", "places", "deeds", "weight"]
  d__law_even_net : At K mg "_law_even_net" (top 31) ["pool", "places", "deeds"]
  d__law_less_net : At K mg "_law_less_net" (top 32) ["pool", "places", "deeds"]
  d__law_machine : At K mg "_law_machine" (top 33) ["pool", "places", "deeds"]
  d__law_graph : At K mg "_law_graph" (top 34) ["pool", "places", "deeds"]
  d__law_net : At K mg "_law_net" (top 35) ["pool"]
  d__law_marking : At K mg "_law_marking" (top 36) ["pool", "places", "most"]
  d__law_within : At K mg "_law_within" (top 37) ["a", "b"]
  d__law_done : At K mg "_law_done" (top 38) ["net", "marking", "deed"]
  d__law_behind : At K mg "_law_behind" (top 39) ["net", "marking", "row"]
  d__law_taken : At K mg "_law_taken" (top 40) ["net", "step", "side"]
  d__law_all_steps : At K mg "_law_all_steps" (top 41) ["net", "marking", "most"]
theorem Sis_integer : FnScope Nis_integer ["value"] (defScope (top 1)) := ⟨rfl, rfl, rfl, by decide +kernel, rfl, by decide +kernel, by decide +kernel⟩
theorem Pis_integer {P : Program} {w : World} {K : PySem.W.Frag} {mg : Str → Option Value} {base : Heap} (T : Txt K mg) : Prom P w K mg base 1 "is_integer" 1 Fis_integer :=
  prom (k := 0) (N := Nis_integer) (ps := ["value"]) T.d_is_integer Sis_integer fun f cdv A outer s H E hr => have sc := Sis_integer; (qs_one (q_ret (q_andV (q_isa .int T.z_isinstance (QE.b (q_var 0)) (q_cls .int T.z_int (by decide +kernel))) (q_oneV (q_notV (q_isa .bool T.z_isinstance (QE.b (q_var 0)) (q_cls .bool T.z_bool (by decide +kernel))))))))
theorem Sis_number : FnScope Nis_number ["value", "low", "high"] (defScope (top 2)) := ⟨rfl, rfl, rfl, by decide +kernel, rfl, by decide +kernel, by decide +kernel⟩
theorem Pis_number {P : Program} {w : World} {K : PySem.W.Frag} {mg : Str → Option Value} {base : Heap} (T : Txt K mg) : Prom P w K mg base 2 "is_number" 3 Fis_number :=
  prom (k := 1) (N := Nis_number) (ps := ["value", "low", "high"]) T.d_is_number Sis_number fun f cdv A outer s H E hr => have sc := Sis_number; (qs_one (q_ret (q_andV (q_call ((Pis_integer T).mono (by decide)) hr passQ (qa_cons (q_var 0) qa_nil)) (q_oneV (q_chain op_le s_I op_le s_I (QE.b (q_var 1)) (QE.b (q_var 0)) (QE.b (q_var 2)))))))
theorem Sis_tuple : FnScope Nis_tuple ["value", "size"] (defScope (top 3)) := ⟨rfl, rfl, rfl, by decide +kernel, rfl, by decide +kernel, by decide +kernel⟩
theorem Pis_tuple {P : Program} {w : World} {K : PySem.W.Frag} {mg : Str → Option Value} {base : Heap} (T : Txt K mg) : Prom P w K mg base 1 "is_tuple" 2 Fis_tuple :=
  prom (k := 0) (N := Nis_tuple) (ps := ["value", "size"]) T.d_is_tuple Sis_tuple fun f cdv A outer s H E hr => have sc := Sis_tuple; (qs_one (q_ret (q_andV (q_isa .tuple T.z_isinstance (QE.b (q_var 0)) (q_cls .tuple T.z_tuple (by decide +kernel))) (q_oneV (q_cmp (o_eq (ru hr)) s_eqB (QE.b (q_callB c_len s_len T.z_len (by decide +kernel) (qb_cons (QE.b (q_var 0)) qb_nil))) (QE.b (q_var 1)) (by rfl))))))
theorem Splus : FnScope Nplus ["a", "b"] (defScope (top 5)) := ⟨rfl, rfl, rfl, by decide +kernel, rfl, by decide +kernel, by decide +kernel⟩
theorem Pplus {P : Program} {w : World} {K : PySem.W.Frag} {mg : Str → Option Value} {base : Heap} (T : Txt K mg) : Prom P w K mg base 1 "plus" 2 Fplus :=
  prom (k := 0) (N := Nplus) (ps := ["a", "b"]) T.d_plus Splus fun f cdv A outer s H E hr => have sc := Splus; (qs_one (q_ret (q_callTy c_tuple s_tuple T.z_tuple (by decide +kernel) (qb_cons (QE.b (QF.e (q_comp (own := [("x", 2), ("y", 3)]) rfl sc.nd (blkOk_by (by (show blkC Nplus (defScope (top 5)) _ _ = true); decide +kernel)) (by decide +kernel)  (q_zip2 T.z_zip (qb_cons (QE.b (q_var 0)) (qb_cons (QE.b (q_var 1)) qb_nil))) (fun _ _ _ _ _ => (qg_tup rfl (qg_cons (qg_nm 2 sc.nd) (qg_cons (qg_nm 3 sc.nd) qg_nil)))) (fun _ _ _ _ _ => qt_nil) (fun _ _ _ _ _ => (q_op o_add s_add (QE.b (q_var 2)) (QE.b (q_var 3))))))) qb_nil))))
theorem Sis_within : FnScope Nis_within ["a", "b"] (defScope (top 6)) := ⟨rfl, rfl, rfl, by decide +kernel, rfl, by decide +kernel, by decide +kernel⟩
theorem Pis_within {P : Program} {w : World} {K : PySem.W.Frag} {mg : Str → Option Value} {base : Heap} (T : Txt K mg) : Prom P w K mg base 1 "is_within" 2 Fis_within :=
  prom (k := 0) (N := Nis_within) (ps := ["a", "b"]) T.d_is_within Sis_within fun f cdv A outer s H E hr => have sc := Sis_within; (qs_one (q_ret (q_callB (c_all rfl) s_all T.z_all (by decide +kernel) (qb_cons (QE.b (QF.e (q_comp (own := [("x", 2), ("y", 3)]) rfl sc.nd (blkOk_by (by (show blkC Nis_within (defScope (top 6)) _ _ = true); decide +kernel)) (by decide +kernel)  (q_zip2 T.z_zip (qb_cons (QE.b (q_var 0)) (qb_cons (QE.b (q_var 1)) qb_nil))) (fun _ _ _ _ _ => (qg_tup rfl (qg_cons (qg_nm 2 sc.nd) (qg_cons (qg_nm 3 sc.nd) qg_nil)))) (fun _ _ _ _ _ => qt_nil) (fun _ _ _ _ _ => (q_cmp op_le s_I (QE.b (q_var 2)) (QE.b (q_var 3)) (by rfl)))))) qb_nil))))
theorem Sis_step : FnScope Nis_step ["net", "value"] (defScope (top 9)) := ⟨rfl, rfl, rfl, by decide +kernel, rfl, by decide +kernel, by decide +kernel⟩
theorem Pis_step {P : Program} {w : World} {K : PySem.W.Frag} {mg : Str → Option Value} {base : Heap} (T : Txt K mg) : Prom P w K mg base 3 "is_step" 2 Fis_step :=
  prom (k := 2) (N := Nis_step) (ps := ["net", "value"]) T.d_is_step Sis_step fun f cdv A outer s H E hr => have sc := Sis_step; (qs_cons (q_if (QW.t (q_or (q_not (q_tv (QE.b (q_call ((Pis_tuple T).mono (by decide)) hr passQ (qa_cons (q_var 1) (qa_cons (q_callB c_len s_len T.z_len (by decide +kernel) (qb_cons (QE.b (q_ix ix_seq s_ix (fun _ _ => rfl) (QE.b (q_var 0)) (QE.b q_int))) qb_nil)) qa_nil)))))) (q_or1 (q_not (q_tv (QE.b (q_callB (c_all rfl) s_all T.z_all (by decide +kernel) (qb_cons (QE.b (QF.e (q_comp (own := [("one", 2)]) rfl sc.nd (blkOk_by (by (show blkC Nis_step (defScope (top 9)) _ _ = true); decide +kernel)) (by decide +kernel)  (q_isq (QE.b (q_var 1))) (fun _ _ _ _ _ => (qg_nm 2 sc.nd)) (fun _ _ _ _ _ => qt_nil) (fun _ _ _ _ _ => (q_call ((Pis_number T).mono (by decide)) hr passQ0 (qa_cons (q_var 2) (qa_cons q_int (qa_cons (q_globI T.k_MOST_TIMES) qa_nil)))))))) qb_nil)))))))) (qs_one (q_ret q_bl)) qs_nil)
    (qs_one (q_ret (q_callB (c_any rfl) s_any T.z_any (by decide +kernel) (qb_cons (QE.b (QF.e (q_comp (own := [("one", 2)]) rfl sc.nd (blkOk_by (by (show blkC Nis_step (defScope (top 9)) _ _ = true); decide +kernel)) (by decide +kernel)  (q_isq (QE.b (q_var 1))) (fun _ _ _ _ _ => (qg_nm 2 sc.nd)) (fun _ _ _ _ _ => qt_nil) (fun _ _ _ _ _ => (q_cmp op_gt s_I (QE.b (q_var 2)) (QE.b q_int) (by rfl)))))) qb_nil)))))
theorem Staken_by : FnScope Ntaken_by ["net", "step"] (defScope (top 10)) := ⟨rfl, rfl, rfl, by decide +kernel, rfl, by decide +kernel, by decide +kernel⟩
theorem Ptaken_by {P : Program} {w : World} {K : PySem.W.Frag} {mg : Str → Option Value} {base : Heap} (T : Txt K mg) : Prom P w K mg base 2 "taken_by" 2 Ftaken_by :=
  prom (k := 1) (N := Ntaken_by) (ps := ["net", "step"]) T.d_taken_by Staken_by fun f cdv A outer s H E hr => have sc := Staken_by; (qs_cons (q_set 2 sc.nd (q_op o_mul s_mul (QE.b (q_tup (qa_cons q_int qa_nil))) (QE.b (q_ix ix_seq s_ix (fun _ _ => rfl) (QE.b (q_var 0)) (QE.b q_int)))))
    (qs_cons (q_for (passes_of rfl) rfl (q_zip2 T.z_zip (qb_cons (QE.b (q_var 1)) (qb_cons (QE.b (q_ix ix_seq s_ix (fun _ _ => rfl) (QE.b (q_var 0)) (QE.b q_int))) qb_nil))) (qg_tup rfl (qg_cons (qg_nm 3 sc.nd) (qg_cons (qg_tup rfl (qg_cons (qg_nm 4 sc.nd) (qg_cons (qg_nm 5 sc.nd) qg_nil))) qg_nil))) (qs_one (q_set 2 sc.nd (q_call ((Pplus T).mono (by decide)) hr passQ (qa_cons (q_var 2) (qa_cons (q_callTy c_tuple s_tuple T.z_tuple (by decide +kernel) (qb_cons (QE.b (QF.e (q_comp (own := [("one", 6)]) rfl sc.nd (blkOk_by (by (show blkC Ntaken_by (defScope (top 10)) _ _ = true); decide +kernel)) (by decide +kernel)  (q_isq (QE.b (q_var 4))) (fun _ _ _ _ _ => (qg_nm 6 sc.nd)) (fun _ _ _ _ _ => qt_nil) (fun _ _ _ _ _ => (q_op o_mul s_mul (QE.b (q_var 3)) (QE.b (q_var 6))))))) qb_nil)) qa_nil))))))
    (qs_one (q_ret (q_var 2)))))
theorem Sgiven_by : FnScope Ngiven_by ["net", "step"] (defScope (top 11)) := ⟨rfl, rfl, rfl, by decide +kernel, rfl, by decide +kernel, by decide +kernel⟩
theorem Pgiven_by {P : Program} {w : World} {K : PySem.W.Frag} {mg : Str → Option Value} {base : Heap} (T : Txt K mg) : Prom P w K mg base 2 "given_by" 2 Fgiven_by :=
  prom (k := 1) (N := Ngiven_by) (ps := ["net", "step"]) T.d_given_by Sgiven_by fun f cdv A outer s H E hr => have sc := Sgiven_by; (qs_cons (q_set 2 sc.nd (q_op o_mul s_mul (QE.b (q_tup (qa_cons q_int qa_nil))) (QE.b (q_ix ix_seq s_ix (fun _ _ => rfl) (QE.b (q_var 0)) (QE.b q_int)))))
    (qs_cons (q_for (passes_of rfl) rfl (q_zip2 T.z_zip (qb_cons (QE.b (q_var 1)) (qb_cons (QE.b (q_ix ix_seq s_ix (fun _ _ => rfl) (QE.b (q_var 0)) (QE.b q_int))) qb_nil))) (qg_tup rfl (qg_cons (qg_nm 3 sc.nd) (qg_cons (qg_tup rfl (qg_cons (qg_nm 4 sc.nd) (qg_cons (qg_nm 5 sc.nd) qg_nil))) qg_nil))) (qs_one (q_set 2 sc.nd (q_call ((Pplus T).mono (by decide)) hr passQ (qa_cons (q_var 2) (qa_cons (q_callTy c_tuple s_tuple T.z_tuple (by decide +kernel) (qb_cons (QE.b (QF.e (q_comp (own := [("one", 6)]) rfl sc.nd (blkOk_by (by (show blkC Ngiven_by (defScope (top 11)) _ _ = true); decide +kernel)) (by decide +kernel)  (q_isq (QE.b (q_var 5))) (fun _ _ _ _ _ => (qg_nm 6 sc.nd)) (fun _ _ _ _ _ => qt_nil) (fun _ _ _ _ _ => (q_op o_mul s_mul (QE.b (q_var 3)) (QE.b (q_var 6))))))) qb_nil)) qa_nil))))))
    (qs_one (q_ret (q_var 2)))))
theorem Scan_step : FnScope Ncan_step ["net", "marking", "step"] (defScope (top 12)) := ⟨rfl, rfl, rfl, by decide +kernel, rfl, by decide +kernel, by decide +kernel⟩
theorem Pcan_step {P : Program} {w : World} {K : PySem.W.Frag} {mg : Str → Option Value} {base : Heap} (T : Txt K mg) : Prom P w K mg base 3 "can_step" 3 Fcan_step :=
  prom (k := 2) (N := Ncan_step) (ps := ["net", "marking", "step"]) T.d_can_step Scan_step fun f cdv A outer s H E hr => have sc := Scan_step; (qs_one (q_ret (q_call ((Pis_within T).mono (by decide)) hr passQ (qa_cons (q_call ((Ptaken_by T).mono (by decide)) hr passQ (qa_cons (q_var 0) (qa_cons (q_var 2) qa_nil))) (qa_cons (q_var 1) qa_nil)))))
theorem Sbehind_step : FnScope Nbehind_step ["net", "marking", "step"] (defScope (top 13)) := ⟨rfl, rfl, rfl, by decide +kernel, rfl, by decide +kernel, by decide +kernel⟩
theorem Pbehind_step {P : Program} {w : World} {K : PySem.W.Frag} {mg : Str → Option Value} {base : Heap} (T : Txt K mg) : Prom P w K mg base 4 "behind_step" 3 Fbehind_step :=
  prom (k := 3) (N := Nbehind_step) (ps := ["net", "marking", "step"]) T.d_behind_step Sbehind_step fun f cdv A outer s H E hr => have sc := Sbehind_step; (qs_cons (q_if (q_not (q_tv (QE.b (q_call ((Pcan_step T).mono (by decide)) hr passQ (qa_cons (q_var 0) (qa_cons (q_var 1) (qa_cons (q_var 2) qa_nil))))))) (qs_one (q_ret q_non)) qs_nil)
    (qs_one (q_ret (q_callTy c_tuple s_tuple T.z_tuple (by decide +kernel) (qb_cons (QE.b (QF.e (q_comp (own := [("a", 3), ("b", 4), ("c", 5)]) rfl sc.nd (blkOk_by (by (show blkC Nbehind_step (defScope (top 13)) _ _ = true); decide +kernel)) (by decide +kernel)  (q_zip3 T.z_zip (qb_cons (QE.b (q_var 1)) (qb_cons (QE.b (q_call ((Ptaken_by T).mono (by decide)) hr passQ (qa_cons (q_var 0) (qa_cons (q_var 2) qa_nil)))) (qb_cons (QE.b (q_call ((Pgiven_by T).mono (by decide)) hr passQ (qa_cons (q_var 0) (qa_cons (q_var 2) qa_nil)))) qb_nil)))) (fun _ _ _ _ _ => (qg_tup rfl (qg_cons (qg_nm 3 sc.nd) (qg_cons (qg_nm 4 sc.nd) (qg_cons (qg_nm 5 sc.nd) qg_nil))))) (fun _ _ _ _ _ => qt_nil) (fun _ _ _ _ _ => (q_op o_add s_add (QE.b (q_op op_sub s_sub (QE.b (q_var 3)) (QE.b (q_var 4)))) (QE.b (q_var 5))))))) qb_nil)))))
theorem Ssteps_at : FnScope Nsteps_at ["net", "marking", "most"] (defScope (top 14)) := ⟨rfl, rfl, rfl, by decide +kernel, rfl, by decide +kernel, by decide +kernel⟩
theorem Psteps_at {P : Program} {w : World} {K : PySem.W.Frag} {mg : Str → Option Value} {base : Heap} (T : Txt K mg) : Prom P w K mg base 4 "steps_at" 3 Fsteps_at :=
  prom (k := 3) (N := Nsteps_at) (ps := ["net", "marking", "most"]) T.d_steps_at Ssteps_at fun f cdv A outer s H E hr => have sc := Ssteps_at; (qs_cons (q_set 3 sc.nd (QF.e (q_lst (qa_cons (q_tup qa_nil) qa_nil))))
    (qs_cons (q_for (passes_of rfl) rfl (q_range1 T.z_range (q_callB c_len s_len T.z_len (by decide +kernel) (qb_cons (QE.b (q_ix ix_seq s_ix (fun _ _ => rfl) (QE.b (q_var 0)) (QE.b q_int))) qb_nil))) (qg_nm 4 sc.nd) (qs_cons (q_own 5 sc.nd (q_lst qa_nil))
    (qs_cons (q_for (passes_of rfl) rfl (q_isq (QE.b (q_var 3))) (qg_nm 6 sc.nd) (qs_one (q_for (passes_of rfl) rfl (q_range1 T.z_range (q_op o_add s_add (QE.b (q_var 2)) (QE.b q_int))) (qg_nm 7 sc.nd) (qs_cons (q_set 8 sc.nd (q_op o_add s_add (QE.b (q_op o_add s_add (QE.b (q_var 6)) (QE.b (q_tup (qa_cons (q_var 7) qa_nil))))) (QE.b (q_op o_mul s_mul (QE.b (q_tup (qa_cons q_int qa_nil))) (QE.b (q_op op_sub s_sub (QE.b (q_op op_sub s_sub (QE.b (q_callB c_len s_len T.z_len (by decide +kernel) (qb_cons (QE.b (q_ix ix_seq s_ix (fun _ _ => rfl) (QE.b (q_var 0)) (QE.b q_int))) qb_nil))) (QE.b (q_var 4)))) (QE.b q_int)))))))
    (qs_one (q_if (q_tv (QE.b (q_call ((Pcan_step T).mono (by decide)) hr passQ (qa_cons (q_var 0) (qa_cons (q_var 1) (qa_cons (q_var 8) qa_nil)))))) (qs_one (q_append 5 (q_op o_add s_add (QE.b (q_var 6)) (QE.b (q_tup (qa_cons (q_var 7) qa_nil)))))) qs_nil))))))
    (qs_one (q_fzm 5 (q_set 3 sc.nd (q_var 5)))))))
    (qs_one (q_ret (QF.e (q_callBF (c_sorted (ru2 hr)) f_sorted T.z_sorted (by decide +kernel) (qb_cons (QE.b (QF.e (q_comp (own := [("row", 6)]) rfl sc.nd (blkOk_by (by (show blkC Nsteps_at (defScope (top 14)) _ _ = true); decide +kernel)) (by decide +kernel)  (q_isq (QE.b (q_var 3))) (fun _ _ _ _ _ => (qg_nm 6 sc.nd)) (fun _ _ _ _ _ => (qt_one (q_tv (QE.b (q_callB (c_any rfl) s_any T.z_any (by decide +kernel) (qb_cons (QE.b (QF.e (q_comp (own := [("one", 9)]) rfl sc.nd (blkOk_by (by (show blkC Nsteps_at (relS _ (defScope (top 14))) _ _ = true); decide +kernel)) (by decide +kernel)  (q_isq (QE.b (q_var 6))) (fun _ _ _ _ _ => (qg_nm 9 sc.nd)) (fun _ _ _ _ _ => qt_nil) (fun _ _ _ _ _ => (q_cmp op_gt s_I (QE.b (q_var 9)) (QE.b q_int) (by rfl)))))) qb_nil)))))) (fun _ _ _ _ _ => (q_var 6))))) qb_nil)))))))
theorem Sgreatest_steps : FnScope Ngreatest_steps ["net", "marking", "most"] (defScope (top 15)) := ⟨rfl, rfl, rfl, by decide +kernel, rfl, by decide +kernel, by decide +kernel⟩
theorem Pgreatest_steps {P : Program} {w : World} {K : PySem.W.Frag} {mg : Str → Option Value} {base : Heap} (T : Txt K mg) : Prom P w K mg base 5 "greatest_steps" 3 Fgreatest_steps :=
  prom (k := 4) (N := Ngreatest_steps) (ps := ["net", "marking", "most"]) T.d_greatest_steps Sgreatest_steps fun f cdv A outer s H E hr => have sc := Sgreatest_steps; (qs_cons (q_set 3 sc.nd (q_call ((Psteps_at T).mono (by decide)) hr passQ (qa_cons (q_var 0) (qa_cons (q_var 1) (qa_cons (q_var 2) qa_nil)))))
    (qs_one (q_ret (QF.e (q_comp (own := [("row", 4)]) rfl sc.nd (blkOk_by (by (show blkC Ngreatest_steps (defScope (top 15)) _ _ = true); decide +kernel)) (by decide +kernel)  (q_isq (QE.b (q_var 3))) (fun _ _ _ _ _ => (qg_nm 4 sc.nd)) (fun _ _ _ _ _ => (qt_one (q_not (q_tv (QE.b (q_callB (c_any rfl) s_any T.z_any (by decide +kernel) (qb_cons (QE.b (QF.e (q_comp (own := [("other", 5)]) rfl sc.nd (blkOk_by (by (show blkC Ngreatest_steps (relS _ (defScope (top 15))) _ _ = true); decide +kernel)) (by decide +kernel)  (q_isq (QE.b (q_var 3))) (fun _ _ _ _ _ => (qg_nm 5 sc.nd)) (fun _ _ _ _ _ => qt_nil) (fun _ _ _ _ _ => (q_andV (q_cmp (o_ne (ru hr)) s_eqB (QE.b (q_var 5)) (QE.b (q_var 4)) (by rfl)) (q_oneV (q_call ((Pis_within T).mono (by decide)) hr passQ0 (qa_cons (q_var 4) (qa_cons (q_var 5) qa_nil))))))))) qb_nil))))))) (fun _ _ _ _ _ => (q_var 4)))))))
theorem Srow_of_step : FnScope Nrow_of_step ["step"] (defScope (top 16)) := ⟨rfl, rfl, rfl, by decide +kernel, rfl, by decide +kernel, by decide +kernel⟩
theorem Prow_of_step {P : Program} {w : World} {K : PySem.W.Frag} {mg : Str → Option Value} {base : Heap} (T : Txt K mg) : Prom P w K mg base 1 "row_of_step" 1 Frow_of_step :=
  prom (k := 0) (N := Nrow_of_step) (ps := ["step"]) T.d_row_of_step Srow_of_step fun f cdv A outer s H E hr => have sc := Srow_of_step; (qs_cons (q_set 1 sc.nd (q_tup qa_nil))
    (qs_cons (q_for (passes_of rfl) rfl (q_enum T.z_enumerate (QE.b (q_var 0))) (qg_tup rfl (qg_cons (qg_nm 2 sc.nd) (qg_cons (qg_nm 3 sc.nd) qg_nil))) (qs_one (q_set 1 sc.nd (q_op o_add s_add (QE.b (q_var 1)) (QE.b (q_op o_mul s_mul (QE.b (q_tup (qa_cons (q_var 2) qa_nil))) (QE.b (q_var 3))))))))
    (qs_one (q_ret (q_var 1)))))
theorem S_law_cell : FnScope N_law_cell ["script", "k"] (defScope (top 18)) := ⟨rfl, rfl, rfl, by decide +kernel, rfl, by decide +kernel, by decide +kernel⟩
theorem P_law_cell {P : Program} {w : World} {K : PySem.W.Frag} {mg : Str → Option Value} {base : Heap} (T : Txt K mg) : Prom P w K mg base 1 "_law_cell" 2 F_law_cell :=
  prom (k := 0) (N := N_law_cell) (ps := ["script", "k"]) T.d__law_cell S_law_cell fun f cdv A outer s H E hr => have sc := S_law_cell; (qs_cons (q_if (q_cmpT op_lt s_I (QE.b (q_var 1)) (QE.b (q_callB c_len s_len T.z_len (by decide +kernel) (qb_cons (QE.b (q_var 0)) qb_nil))) (by rfl)) (qs_one (q_ret (q_ix ix_seq s_ix (fun _ _ => rfl) (QE.b (q_var 0)) (QE.b (q_var 1))))) qs_nil)
    (qs_one (q_ret q_int)))
theorem S_law_numbers : FnScope N_law_numbers ["cell", "many"] (defScope (top 19)) := ⟨rfl, rfl, rfl, by decide +kernel, rfl, by decide +kernel, by decide +kernel⟩
theorem P_law_numbers {P : Program} {w : World} {K : PySem.W.Frag} {mg : Str → Option Value} {base : Heap} (T : Txt K mg) : Prom P w K mg base 1 "_law_numbers" 2 F_law_numbers :=
  prom (k := 0) (N := N_law_numbers) (ps := ["cell", "many"]) T.d__law_numbers S_law_numbers fun f cdv A outer s H E hr => have sc := S_law_numbers; (qs_cons (q_own 2 sc.nd (q_lst qa_nil))
    (qs_cons (q_set 3 sc.nd (q_var 0))
    (qs_cons (q_for (passes_of rfl) rfl (q_range1 T.z_range (q_var 1)) (qg_nm 4 sc.nd) (qs_one (q_if (QW.t (q_and (q_cmpT op_ge s_I (QE.b (q_var 0)) (QE.b (q_op op_pow s_pow (QE.b q_int) (QE.b q_int))) (by rfl)) (q_and1 (q_cmpT op_gt s_I (QE.b (q_var 3)) (QE.b q_int) (by rfl))))) (qs_cons (q_append 2 (q_op o_mod s_mod (QE.b (q_callTy c_int s_int T.z_int (by decide +kernel) (qb_cons (QE.b (q_var 3)) qb_nil))) (QE.b q_int)))
    (qs_one (q_set 3 sc.nd (q_op o_div s_div (QE.b (q_var 3)) (QE.b q_int))))) (qs_cons (q_set 5 sc.nd (q_op o_mod s_mod (QE.b (q_callTy c_int s_int T.z_int (by decide +kernel) (qb_cons (QE.b (q_op o_add s_add (QE.b (q_op o_mul s_mul (QE.b (q_var 0)) (QE.b q_int))) (QE.b (q_op o_mul s_mul (QE.b (q_op o_add s_add (QE.b (q_var 4)) (QE.b q_int))) (QE.b q_int))))) qb_nil))) (QE.b q_int)))
    (qs_cons (q_set 5 sc.nd (q_op o_mod s_mod (QE.b (q_callTy c_int s_int T.z_int (by decide +kernel) (qb_cons (QE.b (q_op o_add s_add (QE.b (q_op o_add s_add (QE.b (q_op o_mul s_mul (QE.b (q_var 5)) (QE.b (q_var 5)))) (QE.b (q_op o_mul s_mul (QE.b (q_var 5)) (QE.b q_int))))) (QE.b (q_op o_mul s_mul (QE.b (q_var 4)) (QE.b q_int))))) qb_nil))) (QE.b q_int)))
    (qs_cons (q_set 5 sc.nd (q_op o_mod s_mod (QE.b (q_callTy c_int s_int T.z_int (by decide +kernel) (qb_cons (QE.b (q_op o_add s_add (QE.b (q_op o_add s_add (QE.b (q_op o_mul s_mul (QE.b (q_var 5)) (QE.b (q_var 5)))) (QE.b (q_var 0)))) (QE.b (q_op o_mul s_mul (QE.b q_int) (QE.b (q_var 4)))))) qb_nil))) (QE.b q_int)))
    (qs_one (q_append 2 (q_op o_mod s_mod (QE.b (q_op o_div s_div (QE.b (q_var 5)) (QE.b q_int))) (QE.b q_int))))))))))
    (qs_one (q_fzm 2 (q_ret (q_var 2)))))))
theorem S_law_pool : FnScope N_law_pool ["script"] (defScope (top 20)) := ⟨rfl, rfl, rfl, by decide +kernel, rfl, by decide +kernel, by decide +kernel⟩
theorem P_law_pool {P : Program} {w : World} {K : PySem.W.Frag} {mg : Str → Option Value} {base : Heap} (T : Txt K mg) : Prom P w K mg base 2 "_law_pool" 1 F_law_pool :=
  prom (k := 1) (N := N_law_pool) (ps := ["script"]) T.d__law_pool S_law_pool fun f cdv A outer s H E hr => have sc := S_law_pool; (qs_cons (q_set 1 sc.nd (QF.e (q_lst qa_nil)))
    (qs_cons (q_for (passes_of rfl) rfl (q_range1 T.z_range (q_callB (c_min rfl (ru hr)) s_min T.z_min (by decide +kernel) (qb_cons (QE.b q_int) (qb_cons (QE.b (q_callB (c_max rfl (ru hr)) s_max T.z_max (by decide +kernel) (qb_cons (QE.b q_int) (qb_cons (QE.b (q_callB c_len s_len T.z_len (by decide +kernel) (qb_cons (QE.b (q_var 0)) qb_nil))) qb_nil)))) qb_nil)))) (qg_nm 2 sc.nd) (qs_one (q_set 1 sc.nd (q_op o_add s_add (QE.b (q_var 1)) (QE.b (q_call ((P_law_numbers T).mono (by decide)) hr passQ (qa_cons (q_op o_add s_add (QE.b (q_call ((P_law_cell T).mono (by decide)) hr passQ (qa_cons (q_var 0) (qa_cons (q_var 2) qa_nil)))) (QE.b (q_op o_mul s_mul (QE.b q_int) (QE.b (q_var 2))))) (qa_cons q_int qa_nil))))))))
    (qs_one (q_ret (QF.e (q_lst (qa_cons (q_var 1) (qa_cons (QF.g (q_lst (qa_cons q_int qa_nil))) qa_nil))))))))
theorem S_law_draw : FnScope N_law_draw ["pool", "many"] (defScope (top 21)) := ⟨rfl, rfl, rfl, by decide +kernel, rfl, by decide +kernel, by decide +kernel⟩
theorem P_law_draw {P : Program} {w : World} {K : PySem.W.Frag} {mg : Str → Option Value} {base : Heap} (T : Txt K mg) : Prom P w K mg base 1 "_law_draw" 2 F_law_draw :=
  prom (k := 0) (N := N_law_draw) (ps := ["pool", "many"]) T.d__law_draw S_law_draw fun f cdv A outer s H E hr => have sc := S_law_draw; (qs_cons (q_set 2 sc.nd (q_ix ix_seq s_ix (fun _ _ => rfl) (QE.b (q_ix ix_seq s_ix (fun _ _ => rfl) (QE.b (q_var 0)) (QE.b q_int))) (QE.b q_int)))
    (qs_cons (q_setG (q_op o_add s_add (QE.b (q_var 2)) (QE.b q_int)) (q_ix ix_seq s_ix (fun _ _ => rfl) (QE.b (q_var 0)) (QE.b q_int)) q_int)
    (qs_cons (q_set 3 sc.nd (q_op o_div s_div (QE.b (q_var 2)) (QE.b (q_callB c_len s_len T.z_len (by decide +kernel) (qb_cons (QE.b (q_ix ix_seq s_ix (fun _ _ => rfl) (QE.b (q_var 0)) (QE.b q_int))) qb_nil)))))
    (qs_one (q_ret (q_op o_mod s_mod (QE.b (q_callTy c_int s_int T.z_int (by decide +kernel) (qb_cons (QE.b (q_op o_add s_add (QE.b (q_op o_add s_add (QE.b (q_ix ix_seq s_ix (fun _ _ => rfl) (QE.b (q_ix ix_seq s_ix (fun _ _ => rfl) (QE.b (q_var 0)) (QE.b q_int))) (QE.b (q_op o_mod s_mod (QE.b (q_var 2)) (QE.b (q_callB c_len s_len T.z_len (by decide +kernel) (qb_cons (QE.b (q_ix ix_seq s_ix (fun _ _ => rfl) (QE.b (q_var 0)) (QE.b q_int))) qb_nil))))))) (QE.b (q_op o_mul s_mul (QE.b (q_var 3)) (QE.b q_int))))) (QE.b (q_op o_mul s_mul (QE.b (q_op o_mul s_mul (QE.b (q_var 3)) (QE.b (q_var 2)))) (QE.b q_int))))) qb_nil))) (QE.b (q_var 1))))))))
theorem S_law_kind : FnScope N_law_kind ["x"] (defScope (top 22)) := ⟨rfl, rfl, rfl, by decide +kernel, rfl, by decide +kernel, by decide +kernel⟩
theorem P_law_kind {P : Program} {w : World} {K : PySem.W.Frag} {mg : Str → Option Value} {base : Heap} (T : Txt K mg) : Prom P w K mg base 1 "_law_kind" 1 F_law_kind :=
  prom (k := 0) (N := N_law_kind) (ps := ["x"]) T.d__law_kind S_law_kind fun f cdv A outer s H E hr => have sc := S_law_kind; (qs_cons (q_if (q_tv (QE.b (q_isa .bool T.z_isinstance (QE.b (q_var 0)) (q_cls .bool T.z_bool (by decide +kernel))))) (qs_one (q_ret q_int)) qs_nil)
    (qs_cons (q_if (q_tv (QE.b (q_isa .int T.z_isinstance (QE.b (q_var 0)) (q_cls .int T.z_int (by decide +kernel))))) (qs_one (q_ret q_int)) qs_nil)
    (qs_cons (q_if (q_tv (QE.b (q_isa .str T.z_isinstance (QE.b (q_var 0)) (q_cls .str T.z_str (by decide +kernel))))) (qs_one (q_ret q_int)) qs_nil)
    (qs_cons (q_if (q_tv (QE.b (q_isa .tuple T.z_isinstance (QE.b (q_var 0)) (q_cls .tuple T.z_tuple (by decide +kernel))))) (qs_one (q_ret q_int)) qs_nil)
    (qs_cons (q_if (q_tv (QE.b (q_isa .list T.z_isinstance (QE.b (q_var 0)) (q_cls .list T.z_list (by decide +kernel))))) (qs_one (q_ret q_int)) qs_nil)
    (qs_cons (q_if (q_cmpT o_is s_isB (QE.b (q_var 0)) (QE.b q_non) (by rfl)) (qs_one (q_ret q_int)) qs_nil)
    (qs_one (q_ret q_int))))))))
theorem S_law_equal : FnScope N_law_equal ["x", "due"] (defScope (top 23)) := ⟨rfl, rfl, rfl, by decide +kernel, rfl, by decide +kernel, by decide +kernel⟩
theorem R_law_equal {P : Program} {w : World} {K : PySem.W.Frag} {mg : Str → Option Value} {base : Heap} (T : Txt K mg) {k : Nat} (hk : 1 ≤ k) {self : Fn} (hs : Prom P w K mg base k "_law_equal" 2 self) : Prom P w K mg base (k + 1) "_law_equal" 2 (mkFn 2 3 (B_law_equal self)) :=
  prom (k := k) (N := N_law_equal) (ps := ["x", "due"]) T.d__law_equal S_law_equal fun f cdv A outer s H E hr => have sc := S_law_equal; (qs_cons (q_if (QW.t (q_or (q_cmpT (o_ne (ru hr)) s_eqB (QE.b (q_call ((P_law_kind T).mono (Nat.le_trans (by decide) hk)) hr passQ (qa_cons (q_var 0) qa_nil))) (QE.b (q_call ((P_law_kind T).mono (Nat.le_trans (by decide) hk)) hr passQ (qa_cons (q_var 1) qa_nil))) (by rfl)) (q_or1 (q_cmpT (o_eq (ru hr)) s_eqB (QE.b (q_call ((P_law_kind T).mono (Nat.le_trans (by decide) hk)) hr passQ (qa_cons (q_var 0) qa_nil))) (QE.b q_int) (by rfl))))) (qs_one (q_ret q_bl)) qs_nil)
    (qs_cons (q_if (QW.t (q_or (q_tv (QE.b (q_isa .tuple T.z_isinstance (QE.b (q_var 1)) (q_cls .tuple T.z_tuple (by decide +kernel))))) (q_or1 (q_tv (QE.b (q_isa .list T.z_isinstance (QE.b (q_var 1)) (q_cls .list T.z_list (by decide +kernel)))))))) (qs_cons (q_if (q_cmpT (o_ne (ru hr)) s_eqB (QE.b (q_callB c_len s_len T.z_len (by decide +kernel) (qb_cons (QE.b (q_var 0)) qb_nil))) (QE.b (q_callB c_len s_len T.z_len (by decide +kernel) (qb_cons (QE.b (q_var 1)) qb_nil))) (by rfl)) (qs_one (q_ret q_bl)) qs_nil)
    (qs_cons (q_for (passes_of rfl) rfl (q_range1 T.z_range (q_callB c_len s_len T.z_len (by decide +kernel) (qb_cons (QE.b (q_var 1)) qb_nil))) (qg_nm 2 sc.nd) (qs_one (q_if (q_not (q_tv (QE.b (q_call hs hr passQ (qa_cons (q_ix ix_seq s_ix (fun _ _ => rfl) (QE.b (q_var 0)) (QE.b (q_var 2))) (qa_cons (q_ix ix_seq s_ix (fun _ _ => rfl) (QE.b (q_var 1)) (QE.b (q_var 2))) qa_nil)))))) (qs_one (q_ret q_bl)) qs_nil)))
    (qs_one (q_ret q_bl)))) qs_nil)
    (qs_one (q_ret (q_cmp (o_eq (ru hr)) s_eqB (QE.b (q_var 0)) (QE.b (q_var 1)) (by rfl))))))
theorem P_law_equal {P : Program} {w : World} {K : PySem.W.Frag} {mg : Str → Option Value} {base : Heap} (T : Txt K mg) : ∀ m : Nat, Prom P w K mg base (2 + m) "_law_equal" 2 (F_law_equal m)
  | 0 => prom0 T.d__law_equal
  | m + 1 => R_law_equal T (k := 2 + m) (by omega) (P_law_equal T m)
theorem S_law_is : FnScope N_law_is ["x", "due"] (defScope (top 24)) := ⟨rfl, rfl, rfl, by decide +kernel, rfl, by decide +kernel, by decide +kernel⟩
theorem P_law_is {P : Program} {w : World} {K : PySem.W.Frag} {mg : Str → Option Value} {base : Heap} (T : Txt K mg) : Prom P w K mg base 1 "_law_is" 2 F_law_is :=
  prom (k := 0) (N := N_law_is) (ps := ["x", "due"]) T.d__law_is S_law_is fun f cdv A outer s H E hr => have sc := S_law_is; (qs_cons (q_if (q_tv (QE.b (q_var 1))) (qs_one (q_ret (q_cmp o_is s_isB (QE.b (q_var 0)) (QE.b q_bl) (by rfl)))) qs_nil)
    (qs_one (q_ret (q_cmp o_is s_isB (QE.b (q_var 0)) (QE.b q_bl) (by rfl)))))
theorem S_law_int : FnScope N_law_int ["x", "low", "high"] (defScope (top 25)) := ⟨rfl, rfl, rfl, by decide +kernel, rfl, by decide +kernel, by decide +kernel⟩
theorem P_law_int {P : Program} {w : World} {K : PySem.W.Frag} {mg : Str → Option Value} {base : Heap} (T : Txt K mg) : Prom P w K mg base 2 "_law_int" 3 F_law_int :=
  prom (k := 1) (N := N_law_int) (ps := ["x", "low", "high"]) T.d__law_int S_law_int fun f cdv A outer s H E hr => have sc := S_law_int; (qs_one (q_ret (q_andV (q_cmp (o_eq (ru hr)) s_eqB (QE.b (q_call ((P_law_kind T).mono (by decide)) hr passQ (qa_cons (q_var 0) qa_nil))) (QE.b q_int) (by rfl)) (q_oneV (q_chain op_le s_I op_le s_I (QE.b (q_var 1)) (QE.b (q_var 0)) (QE.b (q_var 2)))))))
theorem S_law_ints : FnScope N_law_ints ["x", "low", "high"] (defScope (top 26)) := ⟨rfl, rfl, rfl, by decide +kernel, rfl, by decide +kernel, by decide +kernel⟩
theorem P_law_ints {P : Program} {w : World} {K : PySem.W.Frag} {mg : Str → Option Value} {base : Heap} (T : Txt K mg) : Prom P w K mg base 3 "_law_ints" 3 F_law_ints :=
  prom (k := 2) (N := N_law_ints) (ps := ["x", "low", "high"]) T.d__law_ints S_law_ints fun f cdv A outer s H E hr => have sc := S_law_ints; (qs_cons (q_if (q_not (q_tv (QE.b (q_isa .tuple T.z_isinstance (QE.b (q_var 0)) (q_cls .tuple T.z_tuple (by decide +kernel)))))) (qs_one (q_ret q_bl)) qs_nil)
    (qs_cons (q_for (passes_of rfl) rfl (q_isq (QE.b (q_var 0))) (qg_nm 3 sc.nd) (qs_one (q_if (q_not (q_tv (QE.b (q_call ((P_law_int T).mono (by decide)) hr passQ (qa_cons (q_var 3) (qa_cons (q_var 1) (qa_cons (q_var 2) qa_nil))))))) (qs_one (q_ret q_bl)) qs_nil)))
    (qs_one (q_ret q_bl))))
theorem S_law_bent : FnScope N_law_bent ["pool", "value"] (defScope (top 27)) := ⟨rfl, rfl, rfl, by decide +kernel, rfl, by decide +kernel, by decide +kernel⟩
theorem R_law_bent {P : Program} {w : World} {K : PySem.W.Frag} {mg : Str → Option Value} {base : Heap} (T : Txt K mg) {k : Nat} (hk : 1 ≤ k) {self : Fn} (hs : Prom P w K mg base k "_law_bent" 2 self) : Prom P w K mg base (k + 1) "_law_bent" 2 (mkFn 2 7 (B_law_bent self)) :=
  prom (k := k) (N := N_law_bent) (ps := ["pool", "value"]) T.d__law_bent S_law_bent fun f cdv A outer s H E hr => have sc := S_law_bent; (qs_cons (q_if (q_tv (QE.b (q_isa .tuple T.z_isinstance (QE.b (q_var 1)) (q_cls .tuple T.z_tuple (by decide +kernel))))) (qs_cons (q_set 2 sc.nd (q_call ((P_law_draw T).mono (Nat.le_trans (by decide) hk)) hr passQ (qa_cons (q_var 0) (qa_cons q_int qa_nil))))
    (qs_cons (q_if (QW.t (q_or (q_cmpT (o_eq (ru hr)) s_eqB (QE.b (q_callB c_len s_len T.z_len (by decide +kernel) (qb_cons (QE.b (q_var 1)) qb_nil))) (QE.b q_int) (by rfl)) (q_or1 (q_cmpT (o_eq (ru hr)) s_eqB (QE.b (q_var 2)) (QE.b q_int) (by rfl))))) (qs_one (q_ret (q_op o_add s_add (QE.b (q_var 1)) (QE.b (q_tup (qa_cons (q_ix ix_seq s_ix (fun _ _ => rfl) (QE.b (QF.e (q_lst (qa_cons q_int (qa_cons q_int (qa_cons (q_tup qa_nil) (qa_cons (q_tup (qa_cons q_int (qa_cons q_int qa_nil))) qa_nil))))))) (QE.b (q_call ((P_law_draw T).mono (Nat.le_trans (by decide) hk)) hr passQ (qa_cons (q_var 0) (qa_cons q_int qa_nil))))) qa_nil)))))) qs_nil)
    (qs_cons (q_set 3 sc.nd (q_call ((P_law_draw T).mono (Nat.le_trans (by decide) hk)) hr passQ (qa_cons (q_var 0) (qa_cons (q_callB c_len s_len T.z_len (by decide +kernel) (qb_cons (QE.b (q_var 1)) qb_nil)) qa_nil))))
    (qs_cons (q_if (q_cmpT (o_eq (ru hr)) s_eqB (QE.b (q_var 2)) (QE.b q_int) (by rfl)) (qs_one (q_ret (q_op o_add s_add (QE.b (q_sl (QE.b (q_var 1)) qo_none (qo_some (q_var 3)))) (QE.b (q_sl (QE.b (q_var 1)) (qo_some (q_op o_add s_add (QE.b (q_var 3)) (QE.b q_int))) qo_none))))) qs_nil)
    (qs_cons (q_if (QW.t (q_and (q_cmpT (o_eq (ru hr)) s_eqB (QE.b (q_var 2)) (QE.b q_int) (by rfl)) (q_and1 (q_cmpT (o_eq (ru hr)) s_eqB (QE.b (q_call ((P_law_draw T).mono (Nat.le_trans (by decide) hk)) hr passQ (qa_cons (q_var 0) (qa_cons q_int qa_nil)))) (QE.b q_int) (by rfl))))) (qs_one (q_ret (QF.e (q_callTyF c_list f_list T.z_list (by decide +kernel) (qb_cons (QE.b (q_var 1)) qb_nil))))) qs_nil)
    (qs_cons (q_if (q_cmpT (o_eq (ru hr)) s_eqB (QE.b (q_var 2)) (QE.b q_int) (by rfl)) (qs_one (q_ret (q_op o_add s_add (QE.b (q_op o_add s_add (QE.b (q_sl (QE.b (q_var 1)) qo_none (qo_some (q_var 3)))) (QE.b (q_tup (qa_cons (q_ix ix_seq s_ix (fun _ _ => rfl) (QE.b (q_var 1)) (QE.b (q_var 3))) qa_nil))))) (QE.b (q_sl (QE.b (q_var 1)) (qo_some (q_var 3)) qo_none))))) qs_nil)
    (qs_cons (q_if (QW.t (q_and (q_cmpT (o_eq (ru hr)) s_eqB (QE.b (q_var 2)) (QE.b q_int) (by rfl)) (q_and1 (q_cmpT op_gt s_I (QE.b (q_callB c_len s_len T.z_len (by decide +kernel) (qb_cons (QE.b (q_var 1)) qb_nil))) (QE.b q_int) (by rfl))))) (qs_cons (q_set 4 sc.nd (q_op o_mod s_mod (QE.b (q_op o_add s_add (QE.b (q_var 3)) (QE.b q_int))) (QE.b (q_callB c_len s_len T.z_len (by decide +kernel) (qb_cons (QE.b (q_var 1)) qb_nil)))))
    (qs_cons (q_set 5 sc.nd (q_callB (c_min rfl (ru hr)) s_min T.z_min (by decide +kernel) (qb_cons (QE.b (q_var 3)) (qb_cons (QE.b (q_var 4)) qb_nil))))
    (qs_cons (q_set 6 sc.nd (q_callB (c_max rfl (ru hr)) s_max T.z_max (by decide +kernel) (qb_cons (QE.b (q_var 3)) (qb_cons (QE.b (q_var 4)) qb_nil))))
    (qs_one (q_ret (q_op o_add s_add (QE.b (q_op o_add s_add (QE.b (q_op o_add s_add (QE.b (q_op o_add s_add (QE.b (q_sl (QE.b (q_var 1)) qo_none (qo_some (q_var 5)))) (QE.b (q_tup (qa_cons (q_ix ix_seq s_ix (fun _ _ => rfl) (QE.b (q_var 1)) (QE.b (q_var 6))) qa_nil))))) (QE.b (q_sl (QE.b (q_var 1)) (qo_some (q_op o_add s_add (QE.b (q_var 5)) (QE.b q_int))) (qo_some (q_var 6)))))) (QE.b (q_tup (qa_cons (q_ix ix_seq s_ix (fun _ _ => rfl) (QE.b (q_var 1)) (QE.b (q_var 5))) qa_nil))))) (QE.b (q_sl (QE.b (q_var 1)) (qo_some (q_op o_add s_add (QE.b (q_var 6)) (QE.b q_int))) qo_none)))))))) qs_nil)
    (qs_one (q_ret (q_op o_add s_add (QE.b (q_op o_add s_add (QE.b (q_sl (QE.b (q_var 1)) qo_none (qo_some (q_var 3)))) (QE.b (q_tup (qa_cons (q_call hs hr passQ (qa_cons (q_var 0) (qa_cons (q_ix ix_seq s_ix (fun _ _ => rfl) (QE.b (q_var 1)) (QE.b (q_var 3))) qa_nil))) qa_nil))))) (QE.b (q_sl (QE.b (q_var 1)) (qo_some (q_op o_add s_add (QE.b (q_var 3)) (QE.b q_int))) qo_none)))))))))))) qs_nil)
    (qs_cons (q_if (q_tv (QE.b (q_isa .str T.z_isinstance (QE.b (q_var 1)) (q_cls .str T.z_str (by decide +kernel))))) (qs_one (q_ret (q_ix ix_seq s_ix (fun _ _ => rfl) (QE.b (QF.e (q_lst (qa_cons (q_op o_add s_add (QE.b (q_var 1)) (QE.b q_str)) (qa_cons q_str (qa_cons (q_upper (q_var 1)) (qa_cons q_non (qa_cons q_int qa_nil)))))))) (QE.b (q_call ((P_law_draw T).mono (Nat.le_trans (by decide) hk)) hr passQ (qa_cons (q_var 0) (qa_cons q_int qa_nil))))))) qs_nil)
    (qs_cons (q_if (q_cmpT (o_eq (ru hr)) s_eqB (QE.b (q_call ((P_law_kind T).mono (Nat.le_trans (by decide) hk)) hr passQ (qa_cons (q_var 1) qa_nil))) (QE.b q_int) (by rfl)) (qs_one (q_ret (q_ix ix_seq s_ix (fun _ _ => rfl) (QE.b (QF.e (q_lst (qa_cons (q_op o_add s_add (QE.b (q_var 1)) (QE.b q_int)) (qa_cons (q_op op_sub s_sub (QE.b (q_var 1)) (QE.b q_int)) (qa_cons (q_op o_add s_add (QE.b (q_var 1)) (QE.b q_int)) (qa_cons (q_op op_sub s_sub (QE.b (q_var 1)) (QE.b q_int)) (qa_cons q_int (qa_cons (q_op o_add s_add (QE.b (q_var 1)) (QE.b q_int)) (qa_cons q_bl (qa_cons q_non (qa_cons (q_callTy c_str s_str T.z_str (by decide +kernel) (qb_cons (QE.b (q_var 1)) qb_nil)) (qa_cons (q_tup (qa_cons (q_var 1) qa_nil)) qa_nil))))))))))))) (QE.b (q_call ((P_law_draw T).mono (Nat.le_trans (by decide) hk)) hr passQ (qa_cons (q_var 0) (qa_cons q_int qa_nil))))))) qs_nil)
    (qs_one (q_ret (q_ix ix_seq s_ix (fun _ _ => rfl) (QE.b (QF.e (q_lst (qa_cons q_int (qa_cons (q_tup qa_nil) (qa_cons q_bl (qa_cons q_str qa_nil))))))) (QE.b (q_call ((P_law_draw T).mono (Nat.le_trans (by decide) hk)) hr passQ (qa_cons (q_var 0) (qa_cons q_int qa_nil))))))))))
theorem P_law_bent {P : Program} {w : World} {K : PySem.W.Frag} {mg : Str → Option Value} {base : Heap} (T : Txt K mg) : ∀ m : Nat, Prom P w K mg base (2 + m) "_law_bent" 2 (F_law_bent m)
  | 0 => prom0 T.d__law_bent
  | m + 1 => R_law_bent T (k := 2 + m) (by omega) (P_law_bent T m)
theorem S_law_bends : FnScope N_law_bends ["pool", "value", "many"] (defScope (top 28)) := ⟨rfl, rfl, rfl, by decide +kernel, rfl, by decide +kernel, by decide +kernel⟩
theorem P_law_bends {P : Program} {w : World} {K : PySem.W.Frag} {mg : Str → Option Value} {base : Heap} (T : Txt K mg) : Prom P w K mg base 9 "_law_bends" 3 F_law_bends :=
  prom (k := 8) (N := N_law_bends) (ps := ["pool", "value", "many"]) T.d__law_bends S_law_bends fun f cdv A outer s H E hr => have sc := S_law_bends; (qs_cons (q_own 3 sc.nd (q_lst (qa_cons (q_var 1) qa_nil)))
    (qs_cons (q_for (passes_of rfl) rfl (q_range1 T.z_range (q_var 2)) (qg_nm 4 sc.nd) (qs_cons (q_set 5 sc.nd (q_call ((P_law_bent T 6).mono (by decide)) hr passQ (qa_cons (q_var 0) (qa_cons (q_var 1) qa_nil))))
    (qs_cons (q_if (q_cmpT (o_eq (ru hr)) s_eqB (QE.b (q_call ((P_law_draw T).mono (by decide)) hr passQ (qa_cons (q_var 0) (qa_cons q_int qa_nil)))) (QE.b q_int) (by rfl)) (qs_one (q_set 5 sc.nd (q_call ((P_law_bent T 6).mono (by decide)) hr passQ (qa_cons (q_var 0) (qa_cons (q_var 5) qa_nil))))) qs_nil)
    (qs_one (q_append 3 (q_var 5))))))
    (qs_one (q_ret (q_op o_add s_add (q_any 3) (QE.b (QF.e (q_lst (qa_cons q_non (qa_cons q_int (qa_cons q_bl (qa_cons q_str (qa_cons (q_tup qa_nil) (qa_cons (QF.e (q_lst qa_nil)) (qa_cons q_str (qa_cons (q_tup (qa_cons q_int qa_nil)) (qa_cons (q_tup (qa_cons q_str (qa_cons q_int qa_nil))) (qa_cons (q_var 1) qa_nil))))))))))))))))))
theorem S_law_side : FnScope N_law_side ["pool", "places", "weight", "lean"] (defScope (top 29)) := ⟨rfl, rfl, rfl, by decide +kernel, rfl, by decide +kernel, by decide +kernel⟩
theorem P_law_side {P : Program} {w : World} {K : PySem.W.Frag} {mg : Str → Option Value} {base : Heap} (T : Txt K mg) : Prom P w K mg base 2 "_law_side" 4 F_law_side :=
  prom (k := 1) (N := N_law_side) (ps := ["pool", "places", "weight", "lean"]) T.d__law_side S_law_side fun f cdv A outer s H E hr => have sc := S_law_side; (qs_one (q_ret (q_callTy c_tuple s_tuple T.z_tuple (by decide +kernel) (qb_cons (QE.b (QF.e (q_comp (own := [("k", 4)]) rfl sc.nd (blkOk_by (by (show blkC N_law_side (defScope (top 29)) _ _ = true); decide +kernel)) (by decide +kernel)  (q_range1 T.z_range (q_var 1)) (fun _ _ _ _ _ => (qg_nm 4 sc.nd)) (fun _ _ _ _ _ => qt_nil) (fun _ _ _ _ _ => (q_ix ix_seq s_ix (fun _ _ => rfl) (QE.b (QF.e (q_lst (qa_cons q_int (qa_cons (q_op o_add s_add (QE.b q_int) (QE.b (q_call ((P_law_draw T).mono (by decide)) hr passQ0 (qa_cons (q_var 0) (qa_cons (q_var 2) qa_nil))))) qa_nil))))) (QE.b (q_callTy c_int s_int T.z_int (by decide +kernel) (qb_cons (QE.b (q_cmp (o_eq (ru hr)) s_eqB (QE.b (q_call ((P_law_draw T).mono (by decide)) hr passQ0 (qa_cons (q_var 0) (qa_cons (q_var 3) qa_nil)))) (QE.b q_int) (by rfl))) qb_nil)))))))) qb_nil))))
theorem S_law_free_net : FnScope N_law_free_net ["pool", "places", "deeds", "weight"] (defScope (top 30)) := ⟨rfl, rfl, rfl, by decide +kernel, rfl, by decide +kernel, by decide +kernel⟩
theorem P_law_free_net {P : Program} {w : World} {K : PySem.W.Frag} {mg : Str → Option Value} {base : Heap} (T : Txt K mg) : Prom P w K mg base 3 "_law_free_net" 4 F_law_free_net :=
  prom (k := 2) (N := N_law_free_net) (ps := ["pool", "places", "deeds", "weight"]) T.d__law_free_net S_law_free_net fun f cdv A outer s H E hr => have sc := S_law_free_net; (qs_one (q_ret (q_tup (qa_cons (q_var 1) (qa_cons (q_callTy c_tuple s_tuple T.z_tuple (by decide +kernel) (qb_cons (QE.b (QF.e (q_comp (own := [("k", 4)]) rfl sc.nd (blkOk_by (by (show blkC N_law_free_net (defScope (top 30)) _ _ = true); decide +kernel)) (by decide +kernel)  (q_range1 T.z_range (q_var 2)) (fun _ _ _ _ _ => (qg_nm 4 sc.nd)) (fun _ _ _ _ _ => qt_nil) (fun _ _ _ _ _ => (q_tup (qa_cons (q_call ((P_law_side T).mono (by decide)) hr passQ0 (qa_cons (q_var 0) (qa_cons (q_var 1) (qa_cons (q_var 3) (qa_cons q_int qa_nil))))) (qa_cons (q_call ((P_law_side T).mono (by decide)) hr passQ0 (qa_cons (q_var 0) (qa_cons (q_var 1) (qa_cons (q_var 3) (qa_cons q_int qa_nil))))) qa_nil))))))) qb_nil)) qa_nil)))))
theorem S_law_even_net : FnScope N_law_even_net ["pool", "places", "deeds"] (defScope (top 31)) := ⟨rfl, rfl, rfl, by decide +kernel, rfl, by decide +kernel, by decide +kernel⟩
theorem P_law_even_net {P : Program} {w : World} {K : PySem.W.Frag} {mg : Str → Option Value} {base : Heap} (T : Txt K mg) : Prom P w K mg base 2 "_law_even_net" 3 F_law_even_net :=
  prom (k := 1) (N := N_law_even_net) (ps := ["pool", "places", "deeds"]) T.d__law_even_net S_law_even_net fun f cdv A outer s H E hr => have sc := S_law_even_net; (qs_cons (q_own 3 sc.nd (q_lst qa_nil))
    (qs_cons (q_for (passes_of rfl) rfl (q_range1 T.z_range (q_var 2)) (qg_nm 4 sc.nd) (qs_cons (q_set 5 sc.nd (q_op o_add s_add (QE.b q_int) (QE.b (q_call ((P_law_draw T).mono (by decide)) hr passQ (qa_cons (q_var 0) (qa_cons q_int qa_nil))))))
    (qs_cons (q_own 6 sc.nd (q_lst qa_nil))
    (qs_cons (q_for (passes_of rfl) rfl (q_range1 T.z_range q_int) (qg_nm 7 sc.nd) (qs_cons (q_own 8 sc.nd (q_opF op_rep f_mul (QE.b (QF.e (q_lst (qa_cons q_int qa_nil)))) (QE.b (q_var 1))))
    (qs_cons (q_for (passes_of rfl) rfl (q_range1 T.z_range (q_var 5)) (qg_nm 9 sc.nd) (qs_cons (q_set 10 sc.nd (q_call ((P_law_draw T).mono (by decide)) hr passQ (qa_cons (q_var 0) (qa_cons (q_var 1) qa_nil))))
    (qs_one (q_setIx 8 (q_op o_add s_add (QE.b (q_ix ix_seq s_ix (fun _ _ => rfl) (q_any 8) (QE.b (q_var 10)))) (QE.b q_int)) (q_var 10)))))
    (qs_one (q_append 6 (q_callTy c_tuple s_tuple T.z_tuple (by decide +kernel) (qb_cons (q_any 8) qb_nil)))))))
    (qs_one (q_append 3 (q_tup (qa_cons (q_ix ix_seq s_ix (fun _ _ => rfl) (q_any 6) (QE.b q_int)) (qa_cons (q_ix ix_seq s_ix (fun _ _ => rfl) (q_any 6) (QE.b q_int)) qa_nil)))))))))
    (qs_one (q_ret (q_tup (qa_cons (q_var 1) (qa_cons (q_callTy c_tuple s_tuple T.z_tuple (by decide +kernel) (qb_cons (q_any 3) qb_nil)) qa_nil)))))))
theorem S_law_less_net : FnScope N_law_less_net ["pool", "places", "deeds"] (defScope (top 32)) := ⟨rfl, rfl, rfl, by decide +kernel, rfl, by decide +kernel, by decide +kernel⟩
theorem P_law_less_net {P : Program} {w : World} {K : PySem.W.Frag} {mg : Str → Option Value} {base : Heap} (T : Txt K mg) : Prom P w K mg base 3 "_law_less_net" 3 F_law_less_net :=
  prom (k := 2) (N := N_law_less_net) (ps := ["pool", "places", "deeds"]) T.d__law_less_net S_law_less_net fun f cdv A outer s H E hr => have sc := S_law_less_net; (qs_cons (q_own 3 sc.nd (q_lst qa_nil))
    (qs_cons (q_for (passes_of rfl) rfl (q_isq (QE.b (q_ix ix_seq s_ix (fun _ _ => rfl) (QE.b (q_call ((P_law_even_net T).mono (by decide)) hr passQ (qa_cons (q_var 0) (qa_cons (q_var 1) (qa_cons (q_var 2) qa_nil))))) (QE.b q_int)))) (qg_tup rfl (qg_cons (qg_nm 4 sc.nd) (qg_cons (qg_nm 5 sc.nd) qg_nil))) (qs_cons (q_if (q_cmpT (o_eq (ru hr)) s_eqB (QE.b (q_call ((P_law_draw T).mono (by decide)) hr passQ (qa_cons (q_var 0) (qa_cons q_int qa_nil)))) (QE.b q_int) (by rfl)) (qs_one (q_set 5 sc.nd (q_callTy c_tuple s_tuple T.z_tuple (by decide +kernel) (qb_cons (QE.b (QF.e (q_comp (own := [("one", 6)]) rfl sc.nd (blkOk_by (by (show blkC N_law_less_net (defScope (top 32)) _ _ = true); decide +kernel)) (by decide +kernel)  (q_isq (QE.b (q_var 5))) (fun _ _ _ _ _ => (qg_nm 6 sc.nd)) (fun _ _ _ _ _ => qt_nil) (fun _ _ _ _ _ => (q_callB (c_max rfl (ru hr)) s_max T.z_max (by decide +kernel) (qb_cons (QE.b q_int) (qb_cons (QE.b (q_op op_sub s_sub (QE.b (q_var 6)) (QE.b (q_callTy c_int s_int T.z_int (by decide +kernel) (qb_cons (QE.b (q_cmp (o_eq (ru hr)) s_eqB (QE.b (q_call ((P_law_draw T).mono (by decide)) hr passQ0 (qa_cons (q_var 0) (qa_cons q_int qa_nil)))) (QE.b q_int) (by rfl))) qb_nil))))) qb_nil))))))) qb_nil)))) qs_nil)
    (qs_one (q_append 3 (q_tup (qa_cons (q_var 4) (qa_cons (q_var 5) qa_nil)))))))
    (qs_one (q_ret (q_tup (qa_cons (q_var 1) (qa_cons (q_callTy c_tuple s_tuple T.z_tuple (by decide +kernel) (qb_cons (q_any 3) qb_nil)) qa_nil)))))))
theorem S_law_machine : FnScope N_law_machine ["pool", "places", "deeds"] (defScope (top 33)) := ⟨rfl, rfl, rfl, by decide +kernel, rfl, by decide +kernel, by decide +kernel⟩
theorem P_law_machine {P : Program} {w : World} {K : PySem.W.Frag} {mg : Str → Option Value} {base : Heap} (T : Txt K mg) : Prom P w K mg base 2 "_law_machine" 3 F_law_machine :=
  prom (k := 1) (N := N_law_machine) (ps := ["pool", "places", "deeds"]) T.d__law_machine S_law_machine fun f cdv A outer s H E hr => have sc := S_law_machine; (qs_cons (q_own 3 sc.nd (q_lst qa_nil))
    (qs_cons (q_for (passes_of rfl) rfl (q_range1 T.z_range (q_var 2)) (qg_nm 4 sc.nd) (qs_cons (q_set 5 sc.nd (q_call ((P_law_draw T).mono (by decide)) hr passQ (qa_cons (q_var 0) (qa_cons (q_var 1) qa_nil))))
    (qs_cons (q_set 6 sc.nd (q_call ((P_law_draw T).mono (by decide)) hr passQ (qa_cons (q_var 0) (qa_cons (q_var 1) qa_nil))))
    (qs_one (q_append 3 (q_tup (qa_cons (q_callTy c_tuple s_tuple T.z_tuple (by decide +kernel) (qb_cons (QE.b (QF.e (q_comp (own := [("at", 7)]) rfl sc.nd (blkOk_by (by (show blkC N_law_machine (defScope (top 33)) _ _ = true); decide +kernel)) (by decide +kernel)  (q_range1 T.z_range (q_var 1)) (fun _ _ _ _ _ => (qg_nm 7 sc.nd)) (fun _ _ _ _ _ => qt_nil) (fun _ _ _ _ _ => (q_callTy c_int s_int T.z_int (by decide +kernel) (qb_cons (QE.b (q_cmp (o_eq (ru hr)) s_eqB (QE.b (q_var 7)) (QE.b (q_var 5)) (by rfl))) qb_nil)))))) qb_nil)) (qa_cons (q_callTy c_tuple s_tuple T.z_tuple (by decide +kernel) (qb_cons (QE.b (QF.e (q_comp (own := [("at", 7)]) rfl sc.nd (blkOk_by (by (show blkC N_law_machine (defScope (top 33)) _ _ = true); decide +kernel)) (by decide +kernel)  (q_range1 T.z_range (q_var 1)) (fun _ _ _ _ _ => (qg_nm 7 sc.nd)) (fun _ _ _ _ _ => qt_nil) (fun _ _ _ _ _ => (q_callTy c_int s_int T.z_int (by decide +kernel) (qb_cons (QE.b (q_cmp (o_eq (ru hr)) s_eqB (QE.b (q_var 7)) (QE.b (q_var 6)) (by rfl))) qb_nil)))))) qb_nil)) qa_nil))))))))
    (qs_one (q_ret (q_tup (qa_cons (q_var 1) (qa_cons (q_callTy c_tuple s_tuple T.z_tuple (by decide +kernel) (qb_cons (q_any 3) qb_nil)) qa_nil)))))))
theorem S_law_graph : FnScope N_law_graph ["pool", "places", "deeds"] (defScope (top 34)) := ⟨rfl, rfl, rfl, by decide +kernel, rfl, by decide +kernel, by decide +kernel⟩
theorem P_law_graph {P : Program} {w : World} {K : PySem.W.Frag} {mg : Str → Option Value} {base : Heap} (T : Txt K mg) : Prom P w K mg base 2 "_law_graph" 3 F_law_graph :=
  prom (k := 1) (N := N_law_graph) (ps := ["pool", "places", "deeds"]) T.d__law_graph S_law_graph fun f cdv A outer s H E hr => have sc := S_law_graph; (qs_cons (q_set 3 sc.nd (QF.e (q_comp (own := [("k", 6)]) rfl sc.nd (blkOk_by (by (show blkC N_law_graph (defScope (top 34)) _ _ = true); decide +kernel)) (by decide +kernel)  (q_range1 T.z_range (q_var 2)) (fun _ _ _ _ _ => (qg_nm 6 sc.nd)) (fun _ _ _ _ _ => qt_nil) (fun _ _ _ _ _ => (QF.g (q_opF op_rep f_mul (QE.b (QF.e (q_lst (qa_cons q_int qa_nil)))) (QE.b (q_var 1))))))))
    (qs_cons (q_set 4 sc.nd (QF.e (q_comp (own := [("k", 6)]) rfl sc.nd (blkOk_by (by (show blkC N_law_graph (defScope (top 34)) _ _ = true); decide +kernel)) (by decide +kernel)  (q_range1 T.z_range (q_var 2)) (fun _ _ _ _ _ => (qg_nm 6 sc.nd)) (fun _ _ _ _ _ => qt_nil) (fun _ _ _ _ _ => (QF.g (q_opF op_rep f_mul (QE.b (QF.e (q_lst (qa_cons q_int qa_nil)))) (QE.b (q_var 1))))))))
    (qs_cons (q_for (passes_of rfl) rfl (q_range1 T.z_range (q_var 1)) (qg_nm 5 sc.nd) (qs_cons (q_setG q_int (q_ix ix_seq s_ix (fun _ _ => rfl) (QE.b (q_var 4)) (QE.b (q_call ((P_law_draw T).mono (by decide)) hr passQ (qa_cons (q_var 0) (qa_cons (q_var 2) qa_nil))))) (q_var 5))
    (qs_one (q_setG q_int (q_ix ix_seq s_ix (fun _ _ => rfl) (QE.b (q_var 3)) (QE.b (q_call ((P_law_draw T).mono (by decide)) hr passQ (qa_cons (q_var 0) (qa_cons (q_var 2) qa_nil))))) (q_var 5)))))
    (qs_one (q_ret (q_tup (qa_cons (q_var 1) (qa_cons (q_callTy c_tuple s_tuple T.z_tuple (by decide +kernel) (qb_cons (QE.b (QF.e (q_comp (own := [("k", 6)]) rfl sc.nd (blkOk_by (by (show blkC N_law_graph (defScope (top 34)) _ _ = true); decide +kernel)) (by decide +kernel)  (q_range1 T.z_range (q_var 2)) (fun _ _ _ _ _ => (qg_nm 6 sc.nd)) (fun _ _ _ _ _ => qt_nil) (fun _ _ _ _ _ => (q_tup (qa_cons (q_callTy c_tuple s_tuple T.z_tuple (by decide +kernel) (qb_cons (QE.b (q_ix ix_seq s_ix (fun _ _ => rfl) (QE.b (q_var 3)) (QE.b (q_var 6)))) qb_nil)) (qa_cons (q_callTy c_tuple s_tuple T.z_tuple (by decide +kernel) (qb_cons (QE.b (q_ix ix_seq s_ix (fun _ _ => rfl) (QE.b (q_var 4)) (QE.b (q_var 6)))) qb_nil)) qa_nil))))))) qb_nil)) qa_nil))))))))
theorem S_law_net : FnScope N_law_net ["pool"] (defScope (top 35)) := ⟨rfl, rfl, rfl, by decide +kernel, rfl, by decide +kernel, by decide +kernel⟩
theorem P_law_net {P : Program} {w : World} {K : PySem.W.Frag} {mg : Str → Option Value} {base : Heap} (T : Txt K mg) : Prom P w K mg base 4 "_law_net" 1 F_law_net :=
  prom (k := 3) (N := N_law_net) (ps := ["pool"]) T.d__law_net S_law_net fun f cdv A outer s H E hr => have sc := S_law_net; (qs_cons (q_set 1 sc.nd (q_op o_add s_add (QE.b q_int) (QE.b (q_call ((P_law_draw T).mono (by decide)) hr passQ (qa_cons (q_var 0) (qa_cons q_int qa_nil))))))
    (qs_cons (q_set 2 sc.nd (q_op o_add s_add (QE.b q_int) (QE.b (q_call ((P_law_draw T).mono (by decide)) hr passQ (qa_cons (q_var 0) (qa_cons q_int qa_nil))))))
    (qs_cons (q_set 3 sc.nd (q_call ((P_law_draw T).mono (by decide)) hr passQ (qa_cons (q_var 0) (qa_cons q_int qa_nil))))
    (qs_cons (q_if (q_cmpT (o_eq (ru hr)) s_eqB (QE.b (q_var 3)) (QE.b q_int) (by rfl)) (qs_one (q_ret (q_call ((P_law_free_net T).mono (by decide)) hr passQ (qa_cons (q_var 0) (qa_cons (q_var 1) (qa_cons (q_var 2) (qa_cons (q_op o_add s_add (QE.b q_int) (QE.b (q_call ((P_law_draw T).mono (by decide)) hr passQ (qa_cons (q_var 0) (qa_cons q_int qa_nil))))) qa_nil))))))) qs_nil)
    (qs_cons (q_if (q_cmpT (o_eq (ru hr)) s_eqB (QE.b (q_var 3)) (QE.b q_int) (by rfl)) (qs_one (q_ret (q_call ((P_law_machine T).mono (by decide)) hr passQ (qa_cons (q_var 0) (qa_cons (q_var 1) (qa_cons (q_var 2) qa_nil)))))) qs_nil)
    (qs_cons (q_if (q_cmpT (o_eq (ru hr)) s_eqB (QE.b (q_var 3)) (QE.b q_int) (by rfl)) (qs_one (q_ret (q_call ((P_law_graph T).mono (by decide)) hr passQ (qa_cons (q_var 0) (qa_cons (q_var 1) (qa_cons (q_var 2) qa_nil)))))) qs_nil)
    (qs_cons (q_if (q_cmpT (o_eq (ru hr)) s_eqB (QE.b (q_var 3)) (QE.b q_int) (by rfl)) (qs_one (q_ret (q_call ((P_law_less_net T).mono (by decide)) hr passQ (qa_cons (q_var 0) (qa_cons (q_var 1) (qa_cons (q_var 2) qa_nil)))))) qs_nil)
    (qs_one (q_ret (q_call ((P_law_even_net T).mono (by decide)) hr passQ (qa_cons (q_var 0) (qa_cons (q_var 1) (qa_cons (q_var 2) qa_nil)))))))))))))
theorem S_law_marking : FnScope N_law_marking ["pool", "places", "most"] (defScope (top 36)) := ⟨rfl, rfl, rfl, by decide +kernel, rfl, by decide +kernel, by decide +kernel⟩
theorem P_law_marking {P : Program} {w : World} {K : PySem.W.Frag} {mg : Str → Option Value} {base : Heap} (T : Txt K mg) : Prom P w K mg base 2 "_law_marking" 3 F_law_marking :=
  prom (k := 1) (N := N_law_marking) (ps := ["pool", "places", "most"]) T.d__law_marking S_law_marking fun f cdv A outer s H E hr => have sc := S_law_marking; (qs_one (q_ret (q_callTy c_tuple s_tuple T.z_tuple (by decide +kernel) (qb_cons (QE.b (QF.e (q_comp (own := [("k", 3)]) rfl sc.nd (blkOk_by (by (show blkC N_law_marking (defScope (top 36)) _ _ = true); decide +kernel)) (by decide +kernel)  (q_range1 T.z_range (q_var 1)) (fun _ _ _ _ _ => (qg_nm 3 sc.nd)) (fun _ _ _ _ _ => qt_nil) (fun _ _ _ _ _ => (q_call ((P_law_draw T).mono (by decide)) hr passQ0 (qa_cons (q_var 0) (qa_cons (q_op o_add s_add (QE.b (q_var 2)) (QE.b q_int)) qa_nil))))))) qb_nil))))
theorem S_law_within : FnScope N_law_within ["a", "b"] (defScope (top 37)) := ⟨rfl, rfl, rfl, by decide +kernel, rfl, by decide +kernel, by decide +kernel⟩
theorem P_law_within {P : Program} {w : World} {K : PySem.W.Frag} {mg : Str → Option Value} {base : Heap} (T : Txt K mg) : Prom P w K mg base 1 "_law_within" 2 F_law_within :=
  prom (k := 0) (N := N_law_within) (ps := ["a", "b"]) T.d__law_within S_law_within fun f cdv A outer s H E hr => have sc := S_law_within; (qs_one (q_ret (q_cmp (o_eq (ru hr)) s_eqB (QE.b (q_callB c_len s_len T.z_len (by decide +kernel) (qb_cons (QE.b (QF.e (q_comp (own := [("k", 2)]) rfl sc.nd (blkOk_by (by (show blkC N_law_within (defScope (top 37)) _ _ = true); decide +kernel)) (by decide +kernel)  (q_range1 T.z_range (q_callB c_len s_len T.z_len (by decide +kernel) (qb_cons (QE.b (q_var 0)) qb_nil))) (fun _ _ _ _ _ => (qg_nm 2 sc.nd)) (fun _ _ _ _ _ => (qt_one (q_cmpT op_gt s_I (QE.b (q_ix ix_seq s_ix (fun _ _ => rfl) (QE.b (q_var 0)) (QE.b (q_var 2)))) (QE.b (q_ix ix_seq s_ix (fun _ _ => rfl) (QE.b (q_var 1)) (QE.b (q_var 2)))) (by rfl)))) (fun _ _ _ _ _ => (q_var 2))))) qb_nil))) (QE.b q_int) (by rfl))))
theorem S_law_done : FnScope N_law_done ["net", "marking", "deed"] (defScope (top 38)) := ⟨rfl, rfl, rfl, by decide +kernel, rfl, by decide +kernel, by decide +kernel⟩
theorem P_law_done {P : Program} {w : World} {K : PySem.W.Frag} {mg : Str → Option Value} {base : Heap} (T : Txt K mg) : Prom P w K mg base 2 "_law_done" 3 F_law_done :=
  prom (k := 1) (N := N_law_done) (ps := ["net", "marking", "deed"]) T.d__law_done S_law_done fun f cdv A outer s H E hr => have sc := S_law_done; (qs_cons (q_asg (q_ix ix_seq s_ix (fun _ _ => rfl) (QE.b (q_ix ix_seq s_ix (fun _ _ => rfl) (QE.b (q_var 0)) (QE.b q_int))) (QE.b (q_var 2))) (qg_tup rfl (qg_cons (qg_nm 3 sc.nd) (qg_cons (qg_nm 4 sc.nd) qg_nil))))
    (qs_cons (q_if (q_not (q_tv (QE.b (q_call ((P_law_within T).mono (by decide)) hr passQ (qa_cons (q_var 3) (qa_cons (q_var 1) qa_nil)))))) (qs_one (q_ret q_non)) qs_nil)
    (qs_one (q_ret (q_callTy c_tuple s_tuple T.z_tuple (by decide +kernel) (qb_cons (QE.b (QF.e (q_comp (own := [("k", 5)]) rfl sc.nd (blkOk_by (by (show blkC N_law_done (defScope (top 38)) _ _ = true); decide +kernel)) (by decide +kernel)  (q_range1 T.z_range (q_ix ix_seq s_ix (fun _ _ => rfl) (QE.b (q_var 0)) (QE.b q_int))) (fun _ _ _ _ _ => (qg_nm 5 sc.nd)) (fun _ _ _ _ _ => qt_nil) (fun _ _ _ _ _ => (q_op o_add s_add (QE.b (q_op op_sub s_sub (QE.b (q_ix ix_seq s_ix (fun _ _ => rfl) (QE.b (q_var 1)) (QE.b (q_var 5)))) (QE.b (q_ix ix_seq s_ix (fun _ _ => rfl) (QE.b (q_var 3)) (QE.b (q_var 5)))))) (QE.b (q_ix ix_seq s_ix (fun _ _ => rfl) (QE.b (q_var 4)) (QE.b (q_var 5))))))))) qb_nil))))))
theorem S_law_behind : FnScope N_law_behind ["net", "marking", "row"] (defScope (top 39)) := ⟨rfl, rfl, rfl, by decide +kernel, rfl, by decide +kernel, by decide +kernel⟩
theorem P_law_behind {P : Program} {w : World} {K : PySem.W.Frag} {mg : Str → Option Value} {base : Heap} (T : Txt K mg) : Prom P w K mg base 3 "_law_behind" 3 F_law_behind :=
  prom (k := 2) (N := N_law_behind) (ps := ["net", "marking", "row"]) T.d__law_behind S_law_behind fun f cdv A outer s H E hr => have sc := S_law_behind; (qs_cons (q_for (passes_of rfl) rfl (q_isq (QE.b (q_var 2))) (qg_nm 3 sc.nd) (qs_one (q_if (q_cmpT o_isnot s_isB (QE.b (q_var 1)) (QE.b q_non) (by rfl)) (qs_one (q_set 1 sc.nd (q_call ((P_law_done T).mono (by decide)) hr passQ (qa_cons (q_var 0) (qa_cons (q_var 1) (qa_cons (q_var 3) qa_nil)))))) qs_nil)))
    (qs_one (q_ret (q_var 1))))
theorem S_law_taken : FnScope N_law_taken ["net", "step", "side"] (defScope (top 40)) := ⟨rfl, rfl, rfl, by decide +kernel, rfl, by decide +kernel, by decide +kernel⟩
theorem P_law_taken {P : Program} {w : World} {K : PySem.W.Frag} {mg : Str → Option Value} {base : Heap} (T : Txt K mg) : Prom P w K mg base 1 "_law_taken" 3 F_law_taken :=
  prom (k := 0) (N := N_law_taken) (ps := ["net", "step", "side"]) T.d__law_taken S_law_taken fun f cdv A outer s H E hr => have sc := S_law_taken; (qs_cons (q_set 3 sc.nd (q_op o_mul s_mul (QE.b (QF.e (q_lst (qa_cons q_int qa_nil)))) (QE.b (q_ix ix_seq s_ix (fun _ _ => rfl) (QE.b (q_var 0)) (QE.b q_int)))))
    (qs_cons (q_for (passes_of rfl) rfl (q_range1 T.z_range (q_callB c_len s_len T.z_len (by decide +kernel) (qb_cons (QE.b (q_var 1)) qb_nil))) (qg_nm 4 sc.nd) (qs_one (q_set 3 sc.nd (QF.e (q_comp (own := [("k", 5)]) rfl sc.nd (blkOk_by (by (show blkC N_law_taken (defScope (top 40)) _ _ = true); decide +kernel)) (by decide +kernel)  (q_range1 T.z_range (q_ix ix_seq s_ix (fun _ _ => rfl) (QE.b (q_var 0)) (QE.b q_int))) (fun _ _ _ _ _ => (qg_nm 5 sc.nd)) (fun _ _ _ _ _ => qt_nil) (fun _ _ _ _ _ => (q_op o_add s_add (QE.b (q_ix ix_seq s_ix (fun _ _ => rfl) (QE.b (q_var 3)) (QE.b (q_var 5)))) (QE.b (q_op o_mul s_mul (QE.b (q_ix ix_seq s_ix (fun _ _ => rfl) (QE.b (q_var 1)) (QE.b (q_var 4)))) (QE.b (q_ix ix_seq s_ix (fun _ _ => rfl) (QE.b (q_ix ix_seq s_ix (fun _ _ => rfl) (QE.b (q_ix ix_seq s_ix (fun _ _ => rfl) (QE.b (q_ix ix_seq s_ix (fun _ _ => rfl) (QE.b (q_var 0)) (QE.b q_int))) (QE.b (q_var 4)))) (QE.b (q_var 2)))) (QE.b (q_var 5)))))))))))))
    (qs_one (q_ret (q_callTy c_tuple s_tuple T.z_tuple (by decide +kernel) (qb_cons (QE.b (q_var 3)) qb_nil))))))
theorem S_law_all_steps : FnScope N_law_all_steps ["net", "marking", "most"] (defScope (top 41)) := ⟨rfl, rfl, rfl, by decide +kernel, rfl, by decide +kernel, by decide +kernel⟩
theorem P_law_all_steps {P : Program} {w : World} {K : PySem.W.Frag} {mg : Str → Option Value} {base : Heap} (T : Txt K mg) : Prom P w K mg base 2 "_law_all_steps" 3 F_law_all_steps :=
  prom (k := 1) (N := N_law_all_steps) (ps := ["net", "marking", "most"]) T.d__law_all_steps S_law_all_steps fun f cdv A outer s H E hr => have sc := S_law_all_steps; (qs_cons (q_set 3 sc.nd (QF.e (q_lst (qa_cons (q_tup qa_nil) qa_nil))))
    (qs_cons (q_for (passes_of rfl) rfl (q_range1 T.z_range (q_callB c_len s_len T.z_len (by decide +kernel) (qb_cons (QE.b (q_ix ix_seq s_ix (fun _ _ => rfl) (QE.b (q_var 0)) (QE.b q_int))) qb_nil))) (qg_nm 4 sc.nd) (qs_cons (q_set 5 sc.nd (QF.e (q_lst qa_nil)))
    (qs_cons (q_for (passes_of rfl) rfl (q_isq (QE.b (q_var 3))) (qg_nm 6 sc.nd) (qs_one (q_set 5 sc.nd (q_op o_add s_add (QE.b (q_var 5)) (QE.b (QF.e (q_comp (own := [("many", 7)]) rfl sc.nd (blkOk_by (by (show blkC N_law_all_steps (defScope (top 41)) _ _ = true); decide +kernel)) (by decide +kernel)  (q_range1 T.z_range (q_op o_add s_add (QE.b (q_var 2)) (QE.b q_int))) (fun _ _ _ _ _ => (qg_nm 7 sc.nd)) (fun _ _ _ _ _ => (qt_one (q_tv (QE.b (q_call ((P_law_within T).mono (by decide)) hr passQ0 (qa_cons (q_call ((P_law_taken T).mono (by decide)) hr passQ0 (qa_cons (q_var 0) (qa_cons (q_op o_add s_add (QE.b (q_var 6)) (QE.b (q_tup (qa_cons (q_var 7) qa_nil)))) (qa_cons q_int qa_nil)))) (qa_cons (q_var 1) qa_nil))))))) (fun _ _ _ _ _ => (q_op o_add s_add (QE.b (q_var 6)) (QE.b (q_tup (qa_cons (q_var 7) qa_nil))))))))))))
    (qs_one (q_set 3 sc.nd (q_var 5))))))
    (qs_one (q_ret (QF.e (q_callBF (c_sorted (ru2 hr)) f_sorted T.z_sorted (by decide +kernel) (qb_cons (QE.b (QF.e (q_comp (own := [("row", 6)]) rfl sc.nd (blkOk_by (by (show blkC N_law_all_steps (defScope (top 41)) _ _ = true); decide +kernel)) (by decide +kernel)  (q_isq (QE.b (q_var 3))) (fun _ _ _ _ _ => (qg_nm 6 sc.nd)) (fun _ _ _ _ _ => (qt_one (q_cmpT op_gt s_I (QE.b (q_callB (c_sum rfl) s_sum T.z_sum (by decide +kernel) (qb_cons (QE.b (q_var 6)) qb_nil))) (QE.b q_int) (by rfl)))) (fun _ _ _ _ _ => (q_var 6))))) qb_nil)))))))
theorem Slaw : FnScope Nlaw ["script"] (defScope (top 42)) := ⟨rfl, rfl, rfl, by decide +kernel, rfl, by decide +kernel, by decide +kernel⟩
theorem Plaw {P : Program} {w : World} {K : PySem.W.Frag} {mg : Str → Option Value} {base : Heap} (T : Txt K mg) {f : Addr} {fd : FuncData} (F : Fun K "law" "law" (top 42) f fd) : FnOk P w K mg base (L2.CX P w) 10 f fd ["script"] (spQ mg K 1 Flaw) :=
  fn_q (k := 9) F Slaw fun cdv A outer s H E hr => have sc := Slaw; (qs_cons (q_set 1 sc.nd (q_call ((P_law_pool T).mono (by decide)) hr passQ (qa_cons (q_var 0) qa_nil)))
    (qs_cons (q_set 2 sc.nd (q_call ((P_law_net T).mono (by decide)) hr passQ (qa_cons (q_var 1) qa_nil)))
    (qs_cons (q_set 3 sc.nd (q_call ((P_law_marking T).mono (by decide)) hr passQ (qa_cons (q_var 1) (qa_cons (q_ix ix_seq s_ix (fun _ _ => rfl) (QE.b (q_var 2)) (QE.b q_int)) (qa_cons q_int qa_nil)))))
    (qs_cons (q_set 4 sc.nd (q_callB c_len s_len T.z_len (by decide +kernel) (qb_cons (QE.b (q_ix ix_seq s_ix (fun _ _ => rfl) (QE.b (q_var 2)) (QE.b q_int))) qb_nil)))
    (qs_cons (q_set 5 sc.nd (q_op o_add s_add (QE.b q_int) (QE.b (q_call ((P_law_draw T).mono (by decide)) hr passQ (qa_cons (q_var 1) (qa_cons q_int qa_nil))))))
    (qs_cons (q_set 6 sc.nd (q_call ((P_law_all_steps T).mono (by decide)) hr passQ (qa_cons (q_var 2) (qa_cons (q_var 3) (qa_cons (q_var 5) qa_nil)))))
    (qs_cons (q_if (q_not (q_tv (QE.b (q_call ((P_law_equal T 4).mono (by decide)) hr passQ (qa_cons (q_call ((Psteps_at T).mono (by decide)) hr passQ (qa_cons (q_var 2) (qa_cons (q_var 3) (qa_cons (q_var 5) qa_nil)))) (qa_cons (q_var 6) qa_nil)))))) (qs_one (q_ret q_bl)) qs_nil)
    (qs_cons (q_setComp 7 (own := [("row", 14)]) rfl sc.nd (blkOk_by (by (show blkC Nlaw (defScope (top 42)) _ _ = true); decide +kernel)) (by decide +kernel) (sw_true rfl rfl rfl (by decide +kernel)) (q_isq (QE.b (q_var 6))) (fun _ _ _ _ _ => (qg_nm 14 sc.nd)) (fun _ _ _ _ _ => (qt_one (q_cmpT (o_eq (ru hr)) s_eqB (QE.b (q_callB c_len s_len T.z_len (by decide +kernel) (qb_cons (QE.b (QF.e (q_comp (own := [("other", 19)]) rfl sc.nd (blkOk_by (by (show blkC Nlaw (relS _ (defScope (top 42))) _ _ = true); decide +kernel)) (by decide +kernel)  (q_isq (QE.b (q_var 6))) (fun _ _ _ _ _ => (qg_nm 19 sc.nd)) (fun _ _ _ _ _ => (qt_one (QW.t (q_and (q_cmpT (o_ne (ru hr)) s_eqB (QE.b (q_var 19)) (QE.b (q_var 14)) (by rfl)) (q_and1 (q_tv (QE.b (q_call ((P_law_within T).mono (by decide)) hr passQ0 (qa_cons (q_var 14) (qa_cons (q_var 19) qa_nil)))))))))) (fun _ _ _ _ _ => (q_var 19))))) qb_nil))) (QE.b q_int) (by rfl)))) (fun _ _ _ _ _ => (q_var 14)))
    (qs_cons (q_if (q_not (q_tv (QE.b (q_call ((P_law_equal T 4).mono (by decide)) hr passQ (qa_cons (q_call ((Pgreatest_steps T).mono (by decide)) hr passQ (qa_cons (q_var 2) (qa_cons (q_var 3) (qa_cons (q_var 5) qa_nil)))) (qa_cons (q_var 7) qa_nil)))))) (qs_one (q_ret q_bl)) qs_nil)
    (qs_cons (q_set 8 sc.nd (q_callTy c_tuple s_tuple T.z_tuple (by decide +kernel) (qb_cons (QE.b (QF.e (q_comp (own := [("deed", 15)]) rfl sc.nd (blkOk_by (by (show blkC Nlaw (defScope (top 42)) _ _ = true); decide +kernel)) (by decide +kernel)  (q_range1 T.z_range (q_var 4)) (fun _ _ _ _ _ => (qg_nm 15 sc.nd)) (fun _ _ _ _ _ => qt_nil) (fun _ _ _ _ _ => (q_call ((P_law_draw T).mono (by decide)) hr passQ0 (qa_cons (q_var 1) (qa_cons q_int qa_nil))))))) qb_nil)))
    (qs_cons (q_for (passes_of rfl) rfl (q_isq (QE.b (q_op o_add s_add (QE.b (q_call ((P_law_bends T).mono (by decide)) hr passQ (qa_cons (q_var 1) (qa_cons (q_var 8) (qa_cons q_int qa_nil))))) (QE.b (QF.e (q_lst (qa_cons (q_op o_mul s_mul (QE.b (q_tup (qa_cons q_int qa_nil))) (QE.b (q_var 4))) (qa_cons (q_op o_mul s_mul (QE.b (q_tup (qa_cons q_int qa_nil))) (QE.b (q_var 4))) (qa_cons (q_op o_mul s_mul (QE.b (q_tup (qa_cons q_int qa_nil))) (QE.b (q_var 4))) qa_nil))))))))) (qg_nm 9 sc.nd) (qs_cons (q_set 10 sc.nd (q_andV (q_call ((P_law_ints T).mono (by decide)) hr passQ (qa_cons (q_var 9) (qa_cons q_int (qa_cons q_int qa_nil)))) (q_oneV (q_cmp (o_eq (ru hr)) s_eqB (QE.b (q_callB c_len s_len T.z_len (by decide +kernel) (qb_cons (QE.b (q_var 9)) qb_nil))) (QE.b (q_var 4)) (by rfl)))))
    (qs_one (q_if (q_not (q_tv (QE.b (q_call ((P_law_is T).mono (by decide)) hr passQ (qa_cons (q_call ((Pis_step T).mono (by decide)) hr passQ (qa_cons (q_var 2) (qa_cons (q_var 9) qa_nil))) (qa_cons (q_andV (q_var 10) (q_oneV (q_cmp op_gt s_I (QE.b (q_callB (c_sum rfl) s_sum T.z_sum (by decide +kernel) (qb_cons (QE.b (q_var 9)) qb_nil))) (QE.b q_int) (by rfl)))) qa_nil)))))) (qs_one (q_ret q_bl)) qs_nil))))
    (qs_cons (q_for (passes_of rfl) rfl (q_isq (QE.b (q_op o_add s_add (QE.b (q_op o_add s_add (QE.b (q_sl (QE.b (q_var 6)) qo_none (qo_some q_int))) (QE.b (q_sl (QE.b (q_var 6)) (qo_some (q_un un_neg s_neg (QE.b q_int))) qo_none)))) (QE.b (QF.e (q_lst (qa_cons (q_var 8) qa_nil))))))) (qg_nm 11 sc.nd) (qs_cons (q_set 12 sc.nd (q_call ((P_law_within T).mono (by decide)) hr passQ (qa_cons (q_call ((P_law_taken T).mono (by decide)) hr passQ (qa_cons (q_var 2) (qa_cons (q_var 11) (qa_cons q_int qa_nil)))) (qa_cons (q_var 3) qa_nil))))
    (qs_cons (q_if (q_not (q_tv (QE.b (q_call ((P_law_is T).mono (by decide)) hr passQ (qa_cons (q_call ((Pcan_step T).mono (by decide)) hr passQ (qa_cons (q_var 2) (qa_cons (q_var 3) (qa_cons (q_var 11) qa_nil)))) (qa_cons (q_var 12) qa_nil)))))) (qs_one (q_ret q_bl)) qs_nil)
    (qs_cons (q_set 13 sc.nd q_non)
    (qs_cons (q_if (q_tv (QE.b (q_var 12))) (qs_one (q_set 13 sc.nd (q_callTy c_tuple s_tuple T.z_tuple (by decide +kernel) (qb_cons (QE.b (QF.e (q_comp (own := [("k", 18)]) rfl sc.nd (blkOk_by (by (show blkC Nlaw (defScope (top 42)) _ _ = true); decide +kernel)) (by decide +kernel)  (q_range1 T.z_range (q_ix ix_seq s_ix (fun _ _ => rfl) (QE.b (q_var 2)) (QE.b q_int))) (fun _ _ _ _ _ => (qg_nm 18 sc.nd)) (fun _ _ _ _ _ => qt_nil) (fun _ _ _ _ _ => (q_op o_add s_add (QE.b (q_op op_sub s_sub (QE.b (q_ix ix_seq s_ix (fun _ _ => rfl) (QE.b (q_var 3)) (QE.b (q_var 18)))) (QE.b (q_ix ix_seq s_ix (fun _ _ => rfl) (QE.b (q_call ((P_law_taken T).mono (by decide)) hr passQ0 (qa_cons (q_var 2) (qa_cons (q_var 11) (qa_cons q_int qa_nil))))) (QE.b (q_var 18)))))) (QE.b (q_ix ix_seq s_ix (fun _ _ => rfl) (QE.b (q_call ((P_law_taken T).mono (by decide)) hr passQ0 (qa_cons (q_var 2) (qa_cons (q_var 11) (qa_cons q_int qa_nil))))) (QE.b (q_var 18))))))))) qb_nil)))) qs_nil)
    (qs_cons (q_if (q_not (q_tv (QE.b (q_call ((P_law_equal T 4).mono (by decide)) hr passQ (qa_cons (q_call ((Pbehind_step T).mono (by decide)) hr passQ (qa_cons (q_var 2) (qa_cons (q_var 3) (qa_cons (q_var 11) qa_nil)))) (qa_cons (q_var 13) qa_nil)))))) (qs_one (q_ret q_bl)) qs_nil)
    (qs_cons (q_set 14 sc.nd (q_tup qa_nil))
    (qs_cons (q_for (passes_of rfl) rfl (q_range1 T.z_range (q_var 4)) (qg_nm 15 sc.nd) (qs_one (q_set 14 sc.nd (q_op o_add s_add (QE.b (q_var 14)) (QE.b (q_op o_mul s_mul (QE.b (q_tup (qa_cons (q_var 15) qa_nil))) (QE.b (q_ix ix_seq s_ix (fun _ _ => rfl) (QE.b (q_var 11)) (QE.b (q_var 15))))))))))
    (qs_cons (q_if (q_not (q_tv (QE.b (q_call ((P_law_equal T 4).mono (by decide)) hr passQ (qa_cons (q_call ((Prow_of_step T).mono (by decide)) hr passQ (qa_cons (q_var 11) qa_nil)) (qa_cons (q_var 14) qa_nil)))))) (qs_one (q_ret q_bl)) qs_nil)
    (qs_one (q_if (q_tv (QE.b (q_var 12))) (qs_cons (q_set 16 sc.nd (QF.g (q_callTyF c_list f_list T.z_list (by decide +kernel) (qb_cons (QE.b (q_var 14)) qb_nil))))
    (qs_cons (q_set 17 sc.nd (q_tup qa_nil))
    (qs_cons (q_for (passes_of rfl) rfl (q_range1 T.z_range (q_callB c_len s_len T.z_len (by decide +kernel) (qb_cons (QE.b (q_var 14)) qb_nil))) (qg_nm 18 sc.nd) (qs_one (q_set 17 sc.nd (q_op o_add s_add (QE.b (q_var 17)) (QE.b (q_tup (qa_cons (q_popG (q_var 16) (q_call ((P_law_draw T).mono (by decide)) hr passQ (qa_cons (q_var 1) (qa_cons (q_callB c_len s_len T.z_len (by decide +kernel) (qb_cons (QE.b (q_var 16)) qb_nil)) qa_nil)))) qa_nil)))))))
    (qs_one (q_if (QW.t (q_or (q_cmpT (o_ne (ru hr)) s_eqB (QE.b (q_call ((P_law_behind T).mono (by decide)) hr passQ (qa_cons (q_var 2) (qa_cons (q_var 3) (qa_cons (q_var 17) qa_nil))))) (QE.b (q_var 13)) (by rfl)) (q_or1 (q_cmpT (o_ne (ru hr)) s_eqB (QE.b (q_call ((P_law_behind T).mono (by decide)) hr passQ (qa_cons (q_var 2) (qa_cons (q_var 3) (qa_cons (q_var 14) qa_nil))))) (QE.b (q_var 13)) (by rfl))))) (qs_one (q_ret q_bl)) qs_nil))))) qs_nil)))))))))))
    (qs_one (q_ret q_bl))))))))))))))
end K24

namespace K24
open PySem L2 Q
theorem all_mk {l : PySem.W.OpenLaw} {w : World} {K : PySem.W.Frag} {h : Heap} {mg : Str → Option Value} {fa f1 f2 f3 f4 f5 f6 f7 f8 f9 f10 f11 f12 f13 f14 f15 f16 f17 f18 f19 f20 f21 f22 f23 f24 f25 f26 f27 f28 f29 f30 f31 f32 f33 f34 f35 f36 f37 f38 : Addr} (X : K.In h) (G : h.Ns mainGlobals mg) (hfa : mg "law" = some (.ref fa))
    {od1 an1 od2 an2 od3 an3 od4 an4 od5 an5 od6 an6 od7 an7 od8 an8 od9 an9 od10 an10 od11 an11 od12 an12 od13 an13 od14 an14 od15 an15 od16 an16 od17 an17 od18 an18 od19 an19 od20 an20 od21 an21 od22 an22 od23 an23 od24 an24 od25 an25 od26 an26 od27 an27 od28 an28 od29 an29 od30 an30 od31 an31 od32 an32 od33 an33 od34 an34 od35 an35 od36 an36 od37 an37 od38 an38 : Option Addr} {sl1 sl2 sl3 sl4 sl5 sl6 sl7 sl8 sl9 sl10 sl11 sl12 sl13 sl14 sl15 sl16 sl17 sl18 sl19 sl20 sl21 sl22 sl23 sl24 sl25 sl26 sl27 sl28 sl29 sl30 sl31 sl32 sl33 sl34 sl35 sl36 sl37 sl38 : Array (Option Value)} {oc1 kV1 dc1 pm1 cd1 ct1 oc2 kV2 dc2 pm2 cd2 ct2 oc3 kV3 dc3 pm3 cd3 ct3 oc4 kV4 dc4 pm4 cd4 ct4 oc5 kV5 dc5 pm5 cd5 ct5 oc6 kV6 dc6 pm6 cd6 ct6 oc7 kV7 dc7 pm7 cd7 ct7 oc8 kV8 dc8 pm8 cd8 ct8 oc9 kV9 dc9 pm9 cd9 ct9 oc10 kV10 dc10 pm10 cd10 ct10 oc11 kV11 dc11 pm11 cd11 ct11 oc12 kV12 dc12 pm12 cd12 ct12 oc13 kV13 dc13 pm13 cd13 ct13 oc14 kV14 dc14 pm14 cd14 ct14 oc15 kV15 dc15 pm15 cd15 ct15 oc16 kV16 dc16 pm16 cd16 ct16 oc17 kV17 dc17 pm17 cd17 ct17 oc18 kV18 dc18 pm18 cd18 ct18 oc19 kV19 dc19 pm19 cd19 ct19 oc20 kV20 dc20 pm20 cd20 ct20 oc21 kV21 dc21 pm21 cd21 ct21 oc22 kV22 dc22 pm22 cd22 ct22 oc23 kV23 dc23 pm23 cd23 ct23 oc24 kV24 dc24 pm24 cd24 ct24 oc25 kV25 dc25 pm25 cd25 ct25 oc26 kV26 dc26 pm26 cd26 ct26 oc27 kV27 dc27 pm27 cd27 ct27 oc28 kV28 dc28 pm28 cd28 ct28 oc29 kV29 dc29 pm29 cd29 ct29 oc30 kV30 dc30 pm30 cd30 ct30 oc31 kV31 dc31 pm31 cd31 ct31 oc32 kV32 dc32 pm32 cd32 ct32 oc33 kV33 dc33 pm33 cd33 ct33 oc34 kV34 dc34 pm34 cd34 ct34 oc35 kV35 dc35 pm35 cd35 ct35 oc36 kV36 dc36 pm36 cd36 ct36 oc37 kV37 dc37 pm37 cd37 ct37 oc38 kV38 dc38 pm38 cd38 ct38 : Value}
    {t_MOST_TIMES}
    (a1 : PySem.W.nsIn K mainGlobals "is_integer" = some (some (.ref f1))) (l1 : K.lookup f1 = some ⟨oc1, od1, .func (PySem.W.fnOf "is_integer" "is_integer" (defArgs (top 1)) (defBody (top 1)) (defScope (top 1)) .none kV1 dc1 pm1 an1 cd1 ct1), sl1⟩) (c1 : PySem.W.codeIn K cd1 "is_integer" = true) (k1 : PySem.W.keepIn K (.ref f1) = true)
    (a2 : PySem.W.nsIn K mainGlobals "is_number" = some (some (.ref f2))) (l2 : K.lookup f2 = some ⟨oc2, od2, .func (PySem.W.fnOf "is_number" "is_number" (defArgs (top 2)) (defBody (top 2)) (defScope (top 2)) .none kV2 dc2 pm2 an2 cd2 ct2), sl2⟩) (c2 : PySem.W.codeIn K cd2 "is_number" = true) (k2 : PySem.W.keepIn K (.ref f2) = true)
    (a3 : PySem.W.nsIn K mainGlobals "is_tuple" = some (some (.ref f3))) (l3 : K.lookup f3 = some ⟨oc3, od3, .func (PySem.W.fnOf "is_tuple" "is_tuple" (defArgs (top 3)) (defBody (top 3)) (defScope (top 3)) .none kV3 dc3 pm3 an3 cd3 ct3), sl3⟩) (c3 : PySem.W.codeIn K cd3 "is_tuple" = true) (k3 : PySem.W.keepIn K (.ref f3) = true)
    (a4 : PySem.W.nsIn K mainGlobals "plus" = some (some (.ref f4))) (l4 : K.lookup f4 = some ⟨oc4, od4, .func (PySem.W.fnOf "plus" "plus" (defArgs (top 5)) (defBody (top 5)) (defScope (top 5)) .none kV4 dc4 pm4 an4 cd4 ct4), sl4⟩) (c4 : PySem.W.codeIn K cd4 "plus" = true) (k4 : PySem.W.keepIn K (.ref f4) = true)
    (a5 : PySem.W.nsIn K mainGlobals "is_within" = some (some (.ref f5))) (l5 : K.lookup f5 = some ⟨oc5, od5, .func (PySem.W.fnOf "is_within" "is_within" (defArgs (top 6)) (defBody (top 6)) (defScope (top 6)) .none kV5 dc5 pm5 an5 cd5 ct5), sl5⟩) (c5 : PySem.W.codeIn K cd5 "is_within" = true) (k5 : PySem.W.keepIn K (.ref f5) = true)
    (a6 : PySem.W.nsIn K mainGlobals "is_step" = some (some (.ref f6))) (l6 : K.lookup f6 = some ⟨oc6, od6, .func (PySem.W.fnOf "is_step" "is_step" (defArgs (top 9)) (defBody (top 9)) (defScope (top 9)) .none kV6 dc6 pm6 an6 cd6 ct6), sl6⟩) (c6 : PySem.W.codeIn K cd6 "is_step" = true) (k6 : PySem.W.keepIn K (.ref f6) = true)
    (a7 : PySem.W.nsIn K mainGlobals "taken_by" = some (some (.ref f7))) (l7 : K.lookup f7 = some ⟨oc7, od7, .func (PySem.W.fnOf "taken_by" "taken_by" (defArgs (top 10)) (defBody (top 10)) (defScope (top 10)) .none kV7 dc7 pm7 an7 cd7 ct7), sl7⟩) (c7 : PySem.W.codeIn K cd7 "taken_by" = true) (k7 : PySem.W.keepIn K (.ref f7) = true)
    (a8 : PySem.W.nsIn K mainGlobals "given_by" = some (some (.ref f8))) (l8 : K.lookup f8 = some ⟨oc8, od8, .func (PySem.W.fnOf "given_by" "given_by" (defArgs (top 11)) (defBody (top 11)) (defScope (top 11)) .none kV8 dc8 pm8 an8 cd8 ct8), sl8⟩) (c8 : PySem.W.codeIn K cd8 "given_by" = true) (k8 : PySem.W.keepIn K (.ref f8) = true)
    (a9 : PySem.W.nsIn K mainGlobals "can_step" = some (some (.ref f9))) (l9 : K.lookup f9 = some ⟨oc9, od9, .func (PySem.W.fnOf "can_step" "can_step" (defArgs (top 12)) (defBody (top 12)) (defScope (top 12)) .none kV9 dc9 pm9 an9 cd9 ct9), sl9⟩) (c9 : PySem.W.codeIn K cd9 "can_step" = true) (k9 : PySem.W.keepIn K (.ref f9) = true)
    (a10 : PySem.W.nsIn K mainGlobals "behind_step" = some (some (.ref f10))) (l10 : K.lookup f10 = some ⟨oc10, od10, .func (PySem.W.fnOf "behind_step" "behind_step" (defArgs (top 13)) (defBody (top 13)) (defScope (top 13)) .none kV10 dc10 pm10 an10 cd10 ct10), sl10⟩) (c10 : PySem.W.codeIn K cd10 "behind_step" = true) (k10 : PySem.W.keepIn K (.ref f10) = true)
    (a11 : PySem.W.nsIn K mainGlobals "steps_at" = some (some (.ref f11))) (l11 : K.lookup f11 = some ⟨oc11, od11, .func (PySem.W.fnOf "steps_at" "steps_at" (defArgs (top 14)) (defBody (top 14)) (defScope (top 14)) .none kV11 dc11 pm11 an11 cd11 ct11), sl11⟩) (c11 : PySem.W.codeIn K cd11 "steps_at" = true) (k11 : PySem.W.keepIn K (.ref f11) = true)
    (a12 : PySem.W.nsIn K mainGlobals "greatest_steps" = some (some (.ref f12))) (l12 : K.lookup f12 = some ⟨oc12, od12, .func (PySem.W.fnOf "greatest_steps" "greatest_steps" (defArgs (top 15)) (defBody (top 15)) (defScope (top 15)) .none kV12 dc12 pm12 an12 cd12 ct12), sl12⟩) (c12 : PySem.W.codeIn K cd12 "greatest_steps" = true) (k12 : PySem.W.keepIn K (.ref f12) = true)
    (a13 : PySem.W.nsIn K mainGlobals "row_of_step" = some (some (.ref f13))) (l13 : K.lookup f13 = some ⟨oc13, od13, .func (PySem.W.fnOf "row_of_step" "row_of_step" (defArgs (top 16)) (defBody (top 16)) (defScope (top 16)) .none kV13 dc13 pm13 an13 cd13 ct13), sl13⟩) (c13 : PySem.W.codeIn K cd13 "row_of_step" = true) (k13 : PySem.W.keepIn K (.ref f13) = true)
    (a14 : PySem.W.nsIn K mainGlobals "_law_cell" = some (some (.ref f14))) (l14 : K.lookup f14 = some ⟨oc14, od14, .func (PySem.W.fnOf "_law_cell" "_law_cell" (defArgs (top 18)) (defBody (top 18)) (defScope (top 18)) .none kV14 dc14 pm14 an14 cd14 ct14), sl14⟩) (c14 : PySem.W.codeIn K cd14 "_law_cell" = true) (k14 : PySem.W.keepIn K (.ref f14) = true)
    (a15 : PySem.W.nsIn K mainGlobals "_law_numbers" = some (some (.ref f15))) (l15 : K.lookup f15 = some ⟨oc15, od15, .func (PySem.W.fnOf "_law_numbers" "_law_numbers" (defArgs (top 19)) (defBody (top 19)) (defScope (top 19)) .none kV15 dc15 pm15 an15 cd15 ct15), sl15⟩) (c15 : PySem.W.codeIn K cd15 "_law_numbers" = true) (k15 : PySem.W.keepIn K (.ref f15) = true)
    (a16 : PySem.W.nsIn K mainGlobals "_law_pool" = some (some (.ref f16))) (l16 : K.lookup f16 = some ⟨oc16, od16, .func (PySem.W.fnOf "_law_pool" "_law_pool" (defArgs (top 20)) (defBody (top 20)) (defScope (top 20)) .none kV16 dc16 pm16 an16 cd16 ct16), sl16⟩) (c16 : PySem.W.codeIn K cd16 "_law_pool" = true) (k16 : PySem.W.keepIn K (.ref f16) = true)
    (a17 : PySem.W.nsIn K mainGlobals "_law_draw" = some (some (.ref f17))) (l17 : K.lookup f17 = some ⟨oc17, od17, .func (PySem.W.fnOf "_law_draw" "_law_draw" (defArgs (top 21)) (defBody (top 21)) (defScope (top 21)) .none kV17 dc17 pm17 an17 cd17 ct17), sl17⟩) (c17 : PySem.W.codeIn K cd17 "_law_draw" = true) (k17 : PySem.W.keepIn K (.ref f17) = true)
    (a18 : PySem.W.nsIn K mainGlobals "_law_kind" = some (some (.ref f18))) (l18 : K.lookup f18 = some ⟨oc18, od18, .func (PySem.W.fnOf "_law_kind" "_law_kind" (defArgs (top 22)) (defBody (top 22)) (defScope (top 22)) .none kV18 dc18 pm18 an18 cd18 ct18), sl18⟩) (c18 : PySem.W.codeIn K cd18 "_law_kind" = true) (k18 : PySem.W.keepIn K (.ref f18) = true)
    (a19 : PySem.W.nsIn K mainGlobals "_law_equal" = some (some (.ref f19))) (l19 : K.lookup f19 = some ⟨oc19, od19, .func (PySem.W.fnOf "_law_equal" "_law_equal" (defArgs (top 23)) (defBody (top 23)) (defScope (top 23)) .none kV19 dc19 pm19 an19 cd19 ct19), sl19⟩) (c19 : PySem.W.codeIn K cd19 "_law_equal" = true) (k19 : PySem.W.keepIn K (.ref f19) = true)
    (a20 : PySem.W.nsIn K mainGlobals "_law_is" = some (some (.ref f20))) (l20 : K.lookup f20 = some ⟨oc20, od20, .func (PySem.W.fnOf "_law_is" "_law_is" (defArgs (top 24)) (defBody (top 24)) (defScope (top 24)) .none kV20 dc20 pm20 an20 cd20 ct20), sl20⟩) (c20 : PySem.W.codeIn K cd20 "_law_is" = true) (k20 : PySem.W.keepIn K (.ref f20) = true)
    (a21 : PySem.W.nsIn K mainGlobals "_law_int" = some (some (.ref f21))) (l21 : K.lookup f21 = some ⟨oc21, od21, .func (PySem.W.fnOf "_law_int" "_law_int" (defArgs (top 25)) (defBody (top 25)) (defScope (top 25)) .none kV21 dc21 pm21 an21 cd21 ct21), sl21⟩) (c21 : PySem.W.codeIn K cd21 "_law_int" = true) (k21 : PySem.W.keepIn K (.ref f21) = true)
    (a22 : PySem.W.nsIn K mainGlobals "_law_ints" = some (some (.ref f22))) (l22 : K.lookup f22 = some ⟨oc22, od22, .func (PySem.W.fnOf "_law_ints" "_law_ints" (defArgs (top 26)) (defBody (top 26)) (defScope (top 26)) .none kV22 dc22 pm22 an22 cd22 ct22), sl22⟩) (c22 : PySem.W.codeIn K cd22 "_law_ints" = true) (k22 : PySem.W.keepIn K (.ref f22) = true)
    (a23 : PySem.W.nsIn K mainGlobals "_law_bent" = some (some (.ref f23))) (l23 : K.lookup f23 = some ⟨oc23, od23, .func (PySem.W.fnOf "_law_bent" "_law_bent" (defArgs (top 27)) (defBody (top 27)) (defScope (top 27)) .none kV23 dc23 pm23 an23 cd23 ct23), sl23⟩) (c23 : PySem.W.codeIn K cd23 "_law_bent" = true) (k23 : PySem.W.keepIn K (.ref f23) = true)
    (a24 : PySem.W.nsIn K mainGlobals "_law_bends" = some (some (.ref f24))) (l24 : K.lookup f24 = some ⟨oc24, od24, .func (PySem.W.fnOf "_law_bends" "_law_bends" (defArgs (top 28)) (defBody (top 28)) (defScope (top 28)) .none kV24 dc24 pm24 an24 cd24 ct24), sl24⟩) (c24 : PySem.W.codeIn K cd24 "_law_bends" = true) (k24 : PySem.W.keepIn K (.ref f24) = true)
    (a25 : PySem.W.nsIn K mainGlobals "_law_side" = some (some (.ref f25))) (l25 : K.lookup f25 = some ⟨oc25, od25, .func (PySem.W.fnOf "_law_side" "_law_side" (defArgs (top 29)) (defBody (top 29)) (defScope (top 29)) .none kV25 dc25 pm25 an25 cd25 ct25), sl25⟩) (c25 : PySem.W.codeIn K cd25 "_law_side" = true) (k25 : PySem.W.keepIn K (.ref f25) = true)
    (a26 : PySem.W.nsIn K mainGlobals "_law_free_net" = some (some (.ref f26))) (l26 : K.lookup f26 = some ⟨oc26, od26, .func (PySem.W.fnOf "_law_free_net" "_law_free_net" (defArgs (top 30)) (defBody (top 30)) (defScope (top 30)) .none kV26 dc26 pm26 an26 cd26 ct26), sl26⟩) (c26 : PySem.W.codeIn K cd26 "_law_free_net" = true) (k26 : PySem.W.keepIn K (.ref f26) = true)
    (a27 : PySem.W.nsIn K mainGlobals "_law_even_net" = some (some (.ref f27))) (l27 : K.lookup f27 = some ⟨oc27, od27, .func (PySem.W.fnOf "_law_even_net" "_law_even_net" (defArgs (top 31)) (defBody (top 31)) (defScope (top 31)) .none kV27 dc27 pm27 an27 cd27 ct27), sl27⟩) (c27 : PySem.W.codeIn K cd27 "_law_even_net" = true) (k27 : PySem.W.keepIn K (.ref f27) = true)
    (a28 : PySem.W.nsIn K mainGlobals "_law_less_net" = some (some (.ref f28))) (l28 : K.lookup f28 = some ⟨oc28, od28, .func (PySem.W.fnOf "_law_less_net" "_law_less_net" (defArgs (top 32)) (defBody (top 32)) (defScope (top 32)) .none kV28 dc28 pm28 an28 cd28 ct28), sl28⟩) (c28 : PySem.W.codeIn K cd28 "_law_less_net" = true) (k28 : PySem.W.keepIn K (.ref f28) = true)
    (a29 : PySem.W.nsIn K mainGlobals "_law_machine" = some (some (.ref f29))) (l29 : K.lookup f29 = some ⟨oc29, od29, .func (PySem.W.fnOf "_law_machine" "_law_machine" (defArgs (top 33)) (defBody (top 33)) (defScope (top 33)) .none kV29 dc29 pm29 an29 cd29 ct29), sl29⟩) (c29 : PySem.W.codeIn K cd29 "_law_machine" = true) (k29 : PySem.W.keepIn K (.ref f29) = true)
    (a30 : PySem.W.nsIn K mainGlobals "_law_graph" = some (some (.ref f30))) (l30 : K.lookup f30 = some ⟨oc30, od30, .func (PySem.W.fnOf "_law_graph" "_law_graph" (defArgs (top 34)) (defBody (top 34)) (defScope (top 34)) .none kV30 dc30 pm30 an30 cd30 ct30), sl30⟩) (c30 : PySem.W.codeIn K cd30 "_law_graph" = true) (k30 : PySem.W.keepIn K (.ref f30) = true)
    (a31 : PySem.W.nsIn K mainGlobals "_law_net" = some (some (.ref f31))) (l31 : K.lookup f31 = some ⟨oc31, od31, .func (PySem.W.fnOf "_law_net" "_law_net" (defArgs (top 35)) (defBody (top 35)) (defScope (top 35)) .none kV31 dc31 pm31 an31 cd31 ct31), sl31⟩) (c31 : PySem.W.codeIn K cd31 "_law_net" = true) (k31 : PySem.W.keepIn K (.ref f31) = true)
    (a32 : PySem.W.nsIn K mainGlobals "_law_marking" = some (some (.ref f32))) (l32 : K.lookup f32 = some ⟨oc32, od32, .func (PySem.W.fnOf "_law_marking" "_law_marking" (defArgs (top 36)) (defBody (top 36)) (defScope (top 36)) .none kV32 dc32 pm32 an32 cd32 ct32), sl32⟩) (c32 : PySem.W.codeIn K cd32 "_law_marking" = true) (k32 : PySem.W.keepIn K (.ref f32) = true)
    (a33 : PySem.W.nsIn K mainGlobals "_law_within" = some (some (.ref f33))) (l33 : K.lookup f33 = some ⟨oc33, od33, .func (PySem.W.fnOf "_law_within" "_law_within" (defArgs (top 37)) (defBody (top 37)) (defScope (top 37)) .none kV33 dc33 pm33 an33 cd33 ct33), sl33⟩) (c33 : PySem.W.codeIn K cd33 "_law_within" = true) (k33 : PySem.W.keepIn K (.ref f33) = true)
    (a34 : PySem.W.nsIn K mainGlobals "_law_done" = some (some (.ref f34))) (l34 : K.lookup f34 = some ⟨oc34, od34, .func (PySem.W.fnOf "_law_done" "_law_done" (defArgs (top 38)) (defBody (top 38)) (defScope (top 38)) .none kV34 dc34 pm34 an34 cd34 ct34), sl34⟩) (c34 : PySem.W.codeIn K cd34 "_law_done" = true) (k34 : PySem.W.keepIn K (.ref f34) = true)
    (a35 : PySem.W.nsIn K mainGlobals "_law_behind" = some (some (.ref f35))) (l35 : K.lookup f35 = some ⟨oc35, od35, .func (PySem.W.fnOf "_law_behind" "_law_behind" (defArgs (top 39)) (defBody (top 39)) (defScope (top 39)) .none kV35 dc35 pm35 an35 cd35 ct35), sl35⟩) (c35 : PySem.W.codeIn K cd35 "_law_behind" = true) (k35 : PySem.W.keepIn K (.ref f35) = true)
    (a36 : PySem.W.nsIn K mainGlobals "_law_taken" = some (some (.ref f36))) (l36 : K.lookup f36 = some ⟨oc36, od36, .func (PySem.W.fnOf "_law_taken" "_law_taken" (defArgs (top 40)) (defBody (top 40)) (defScope (top 40)) .none kV36 dc36 pm36 an36 cd36 ct36), sl36⟩) (c36 : PySem.W.codeIn K cd36 "_law_taken" = true) (k36 : PySem.W.keepIn K (.ref f36) = true)
    (a37 : PySem.W.nsIn K mainGlobals "_law_all_steps" = some (some (.ref f37))) (l37 : K.lookup f37 = some ⟨oc37, od37, .func (PySem.W.fnOf "_law_all_steps" "_law_all_steps" (defArgs (top 41)) (defBody (top 41)) (defScope (top 41)) .none kV37 dc37 pm37 an37 cd37 ct37), sl37⟩) (c37 : PySem.W.codeIn K cd37 "_law_all_steps" = true) (k37 : PySem.W.keepIn K (.ref f37) = true)
    (a38 : PySem.W.nsIn K mainGlobals "law" = some (some (.ref f38))) (l38 : K.lookup f38 = some ⟨oc38, od38, .func (PySem.W.fnOf "law" "law" (defArgs (top 42)) (defBody (top 42)) (defScope (top 42)) .none kV38 dc38 pm38 an38 cd38 ct38), sl38⟩) (c38 : PySem.W.codeIn K cd38 "law" = true) (k38 : PySem.W.keepIn K (.ref f38) = true)
    (z_all : PySem.W.nsIn K mainGlobals "all" = some none)
    (z_any : PySem.W.nsIn K mainGlobals "any" = some none)
    (z_bool : PySem.W.nsIn K mainGlobals "bool" = some none)
    (z_enumerate : PySem.W.nsIn K mainGlobals "enumerate" = some none)
    (z_int : PySem.W.nsIn K mainGlobals "int" = some none)
    (z_isinstance : PySem.W.nsIn K mainGlobals "isinstance" = some none)
    (z_len : PySem.W.nsIn K mainGlobals "len" = some none)
    (z_list : PySem.W.nsIn K mainGlobals "list" = some none)
    (z_max : PySem.W.nsIn K mainGlobals "max" = some none)
    (z_min : PySem.W.nsIn K mainGlobals "min" = some none)
    (z_range : PySem.W.nsIn K mainGlobals "range" = some none)
    (z_sorted : PySem.W.nsIn K mainGlobals "sorted" = some none)
    (z_str : PySem.W.nsIn K mainGlobals "str" = some none)
    (z_sum : PySem.W.nsIn K mainGlobals "sum" = some none)
    (z_tuple : PySem.W.nsIn K mainGlobals "tuple" = some none)
    (z_zip : PySem.W.nsIn K mainGlobals "zip" = some none)
    (kc_MOST_TIMES : PySem.W.nsIn K mainGlobals "MOST_TIMES" = some (some (.int 9 t_MOST_TIMES))) :
    ∃ fd : FuncData, (∀ (s : Shared) (v : Value), BindsTo s fd ⟨[v], []⟩ [("script", v)]) ∧ ∀ base : Heap, K.In base → base.Ns mainGlobals mg → FnOk l.prog w K mg base (L2.CX l.prog w) 10 fa fd ["script"] (Q.spL K) := by
  have e := hfa.symm.trans (PySem.W.mg_of X G a38)
  cases e
  have F1 := fun_mk (st := top 1) l1 c1 k1
  have D1 : At K mg "is_integer" (top 1) ["value"] := ⟨_, _, F1, PySem.W.mg_of X G a1, k1, F1.binds fun _ _ _ _ _ _ us hl => match us, hl with | [_], _ => rfl⟩
  have F2 := fun_mk (st := top 2) l2 c2 k2
  have D2 : At K mg "is_number" (top 2) ["value", "low", "high"] := ⟨_, _, F2, PySem.W.mg_of X G a2, k2, F2.binds fun _ _ _ _ _ _ us hl => match us, hl with | [_, _, _], _ => rfl⟩
  have F3 := fun_mk (st := top 3) l3 c3 k3
  have D3 : At K mg "is_tuple" (top 3) ["value", "size"] := ⟨_, _, F3, PySem.W.mg_of X G a3, k3, F3.binds fun _ _ _ _ _ _ us hl => match us, hl with | [_, _], _ => rfl⟩
  have F4 := fun_mk (st := top 5) l4 c4 k4
  have D4 : At K mg "plus" (top 5) ["a", "b"] := ⟨_, _, F4, PySem.W.mg_of X G a4, k4, F4.binds fun _ _ _ _ _ _ us hl => match us, hl with | [_, _], _ => rfl⟩
  have F5 := fun_mk (st := top 6) l5 c5 k5
  have D5 : At K mg "is_within" (top 6) ["a", "b"] := ⟨_, _, F5, PySem.W.mg_of X G a5, k5, F5.binds fun _ _ _ _ _ _ us hl => match us, hl with | [_, _], _ => rfl⟩
  have F6 := fun_mk (st := top 9) l6 c6 k6
  have D6 : At K mg "is_step" (top 9) ["net", "value"] := ⟨_, _, F6, PySem.W.mg_of X G a6, k6, F6.binds fun _ _ _ _ _ _ us hl => match us, hl with | [_, _], _ => rfl⟩
  have F7 := fun_mk (st := top 10) l7 c7 k7
  have D7 : At K mg "taken_by" (top 10) ["net", "step"] := ⟨_, _, F7, PySem.W.mg_of X G a7, k7, F7.binds fun _ _ _ _ _ _ us hl => match us, hl with | [_, _], _ => rfl⟩
  have F8 := fun_mk (st := top 11) l8 c8 k8
  have D8 : At K mg "given_by" (top 11) ["net", "step"] := ⟨_, _, F8, PySem.W.mg_of X G a8, k8, F8.binds fun _ _ _ _ _ _ us hl => match us, hl with | [_, _], _ => rfl⟩
  have F9 := fun_mk (st := top 12) l9 c9 k9
  have D9 : At K mg "can_step" (top 12) ["net", "marking", "step"] := ⟨_, _, F9, PySem.W.mg_of X G a9, k9, F9.binds fun _ _ _ _ _ _ us hl => match us, hl with | [_, _, _], _ => rfl⟩
  have F10 := fun_mk (st := top 13) l10 c10 k10
  have D10 : At K mg "behind_step" (top 13) ["net", "marking", "step"] := ⟨_, _, F10, PySem.W.mg_of X G a10, k10, F10.binds fun _ _ _ _ _ _ us hl => match us, hl with | [_, _, _], _ => rfl⟩
  have F11 := fun_mk (st := top 14) l11 c11 k11
  have D11 : At K mg "steps_at" (top 14) ["net", "marking", "most"] := ⟨_, _, F11, PySem.W.mg_of X G a11, k11, F11.binds fun _ _ _ _ _ _ us hl => match us, hl with | [_, _, _], _ => rfl⟩
  have F12 := fun_mk (st := top 15) l12 c12 k12
  have D12 : At K mg "greatest_steps" (top 15) ["net", "marking", "most"] := ⟨_, _, F12, PySem.W.mg_of X G a12, k12, F12.binds fun _ _ _ _ _ _ us hl => match us, hl with | [_, _, _], _ => rfl⟩
  have F13 := fun_mk (st := top 16) l13 c13 k13
  have D13 : At K mg "row_of_step" (top 16) ["step"] := ⟨_, _, F13, PySem.W.mg_of X G a13, k13, F13.binds fun _ _ _ _ _ _ us hl => match us, hl with | [_], _ => rfl⟩
  have F14 := fun_mk (st := top 18) l14 c14 k14
  have D14 : At K mg "_law_cell" (top 18) ["script", "k"] := ⟨_, _, F14, PySem.W.mg_of X G a14, k14, F14.binds fun _ _ _ _ _ _ us hl => match us, hl with | [_, _], _ => rfl⟩
  have F15 := fun_mk (st := top 19) l15 c15 k15
  have D15 : At K mg "_law_numbers" (top 19) ["cell", "many"] := ⟨_, _, F15, PySem.W.mg_of X G a15, k15, F15.binds fun _ _ _ _ _ _ us hl => match us, hl with | [_, _], _ => rfl⟩
  have F16 := fun_mk (st := top 20) l16 c16 k16
  have D16 : At K mg "_law_pool" (top 20) ["script"] := ⟨_, _, F16, PySem.W.mg_of X G a16, k16, F16.binds fun _ _ _ _ _ _ us hl => match us, hl with | [_], _ => rfl⟩
  have F17 := fun_mk (st := top 21) l17 c17 k17
  have D17 : At K mg "_law_draw" (top 21) ["pool", "many"] := ⟨_, _, F17, PySem.W.mg_of X G a17, k17, F17.binds fun _ _ _ _ _ _ us hl => match us, hl with | [_, _], _ => rfl⟩
  have F18 := fun_mk (st := top 22) l18 c18 k18
  have D18 : At K mg "_law_kind" (top 22) ["x"] := ⟨_, _, F18, PySem.W.mg_of X G a18, k18, F18.binds fun _ _ _ _ _ _ us hl => match us, hl with | [_], _ => rfl⟩
  have F19 := fun_mk (st := top 23) l19 c19 k19
  have D19 : At K mg "_law_equal" (top 23) ["x", "due"] := ⟨_, _, F19, PySem.W.mg_of X G a19, k19, F19.binds fun _ _ _ _ _ _ us hl => match us, hl with | [_, _], _ => rfl⟩
  have F20 := fun_mk (st := top 24) l20 c20 k20
  have D20 : At K mg "_law_is" (top 24) ["x", "due"] := ⟨_, _, F20, PySem.W.mg_of X G a20, k20, F20.binds fun _ _ _ _ _ _ us hl => match us, hl with | [_, _], _ => rfl⟩
  have F21 := fun_mk (st := top 25) l21 c21 k21
  have D21 : At K mg "_law_int" (top 25) ["x", "low", "high"] := ⟨_, _, F21, PySem.W.mg_of X G a21, k21, F21.binds fun _ _ _ _ _ _ us hl => match us, hl with | [_, _, _], _ => rfl⟩
  have F22 := fun_mk (st := top 26) l22 c22 k22
  have D22 : At K mg "_law_ints" (top 26) ["x", "low", "high"] := ⟨_, _, F22, PySem.W.mg_of X G a22, k22, F22.binds fun _ _ _ _ _ _ us hl => match us, hl with | [_, _, _], _ => rfl⟩
  have F23 := fun_mk (st := top 27) l23 c23 k23
  have D23 : At K mg "_law_bent" (top 27) ["pool", "value"] := ⟨_, _, F23, PySem.W.mg_of X G a23, k23, F23.binds fun _ _ _ _ _ _ us hl => match us, hl with | [_, _], _ => rfl⟩
  have F24 := fun_mk (st := top 28) l24 c24 k24
  have D24 : At K mg "_law_bends" (top 28) ["pool", "value", "many"] := ⟨_, _, F24, PySem.W.mg_of X G a24, k24, F24.binds fun _ _ _ _ _ _ us hl => match us, hl with | [_, _, _], _ => rfl⟩
  have F25 := fun_mk (st := top 29) l25 c25 k25
  have D25 : At K mg "_law_side" (top 29) ["pool", "places", "weight", "lean"] := ⟨_, _, F25, PySem.W.mg_of X G a25, k25, F25.binds fun _ _ _ _ _ _ us hl => match us, hl with | [_, _, _, _], _ => rfl⟩
  have F26 := fun_mk (st := top 30) l26 c26 k26
  have D26 : At K mg "_law_free_net" (top 30) ["pool", "places", "deeds", "weight"] := ⟨_, _, F26, PySem.W.mg_of X G a26, k26, F26.binds fun _ _ _ _ _ _ us hl => match us, hl with | [_, _, _, _], _ => rfl⟩
  have F27 := fun_mk (st := top 31) l27 c27 k27
  have D27 : At K mg "_law_even_net" (top 31) ["pool", "places", "deeds"] := ⟨_, _, F27, PySem.W.mg_of X G a27, k27, F27.binds fun _ _ _ _ _ _ us hl => match us, hl with | [_, _, _], _ => rfl⟩
  have F28 := fun_mk (st := top 32) l28 c28 k28
  have D28 : At K mg "_law_less_net" (top 32) ["pool", "places", "deeds"] := ⟨_, _, F28, PySem.W.mg_of X G a28, k28, F28.binds fun _ _ _ _ _ _ us hl => match us, hl with | [_, _, _], _ => rfl⟩
  have F29 := fun_mk (st := top 33) l29 c29 k29
  have D29 : At K mg "_law_machine" (top 33) ["pool", "places", "deeds"] := ⟨_, _, F29, PySem.W.mg_of X G a29, k29, F29.binds fun _ _ _ _ _ _ us hl => match us, hl with | [_, _, _], _ => rfl⟩
  have F30 := fun_mk (st := top 34) l30 c30 k30
  have D30 : At K mg "_law_graph" (top 34) ["pool", "places", "deeds"] := ⟨_, _, F30, PySem.W.mg_of X G a30, k30, F30.binds fun _ _ _ _ _ _ us hl => match us, hl with | [_, _, _], _ => rfl⟩
  have F31 := fun_mk (st := top 35) l31 c31 k31
  have D31 : At K mg "_law_net" (top 35) ["pool"] := ⟨_, _, F31, PySem.W.mg_of X G a31, k31, F31.binds fun _ _ _ _ _ _ us hl => match us, hl with | [_], _ => rfl⟩
  have F32 := fun_mk (st := top 36) l32 c32 k32
  have D32 : At K mg "_law_marking" (top 36) ["pool", "places", "most"] := ⟨_, _, F32, PySem.W.mg_of X G a32, k32, F32.binds fun _ _ _ _ _ _ us hl => match us, hl with | [_, _, _], _ => rfl⟩
  have F33 := fun_mk (st := top 37) l33 c33 k33
  have D33 : At K mg "_law_within" (top 37) ["a", "b"] := ⟨_, _, F33, PySem.W.mg_of X G a33, k33, F33.binds fun _ _ _ _ _ _ us hl => match us, hl with | [_, _], _ => rfl⟩
  have F34 := fun_mk (st := top 38) l34 c34 k34
  have D34 : At K mg "_law_done" (top 38) ["net", "marking", "deed"] := ⟨_, _, F34, PySem.W.mg_of X G a34, k34, F34.binds fun _ _ _ _ _ _ us hl => match us, hl with | [_, _, _], _ => rfl⟩
  have F35 := fun_mk (st := top 39) l35 c35 k35
  have D35 : At K mg "_law_behind" (top 39) ["net", "marking", "row"] := ⟨_, _, F35, PySem.W.mg_of X G a35, k35, F35.binds fun _ _ _ _ _ _ us hl => match us, hl with | [_, _, _], _ => rfl⟩
  have F36 := fun_mk (st := top 40) l36 c36 k36
  have D36 : At K mg "_law_taken" (top 40) ["net", "step", "side"] := ⟨_, _, F36, PySem.W.mg_of X G a36, k36, F36.binds fun _ _ _ _ _ _ us hl => match us, hl with | [_, _, _], _ => rfl⟩
  have F37 := fun_mk (st := top 41) l37 c37 k37
  have D37 : At K mg "_law_all_steps" (top 41) ["net", "marking", "most"] := ⟨_, _, F37, PySem.W.mg_of X G a37, k37, F37.binds fun _ _ _ _ _ _ us hl => match us, hl with | [_, _, _], _ => rfl⟩
  have T : Txt K mg := ⟨PySem.W.mg_none_of X G z_all, PySem.W.mg_none_of X G z_any, PySem.W.mg_none_of X G z_bool, PySem.W.mg_none_of X G z_enumerate, PySem.W.mg_none_of X G z_int, PySem.W.mg_none_of X G z_isinstance, PySem.W.mg_none_of X G z_len, PySem.W.mg_none_of X G z_list, PySem.W.mg_none_of X G z_max, PySem.W.mg_none_of X G z_min, PySem.W.mg_none_of X G z_range, PySem.W.mg_none_of X G z_sorted, PySem.W.mg_none_of X G z_str, PySem.W.mg_none_of X G z_sum, PySem.W.mg_none_of X G z_tuple, PySem.W.mg_none_of X G z_zip, ⟨_, PySem.W.mg_of X G kc_MOST_TIMES⟩, D1, D2, D3, D4, D5, D6, D7, D8, D9, D10, D11, D12, D13, D14, D15, D16, D17, D18, D19, D20, D21, D22, D23, D24, D25, D26, D27, D28, D29, D30, D31, D32, D33, D34, D35, D36, D37⟩
  have lawthm : ∀ ns : List Int, ns.length ≤ 63 → ∃ g, Flaw [.scr (ns.map .int)] [] = .ok (.bl true) g := fun ns hn => by
    obtain ⟨v, g, e, hv⟩ := (law_sat ns hn).eq
    exact ⟨g, by rw [e, hv]⟩
  exact ⟨_, fun s v => .of_eq rfl, fun base _ _ => (Plaw T (fun_mk (st := top 42) l38 c38 k38)).imp fun vs H R E q => Q.spL_of lawthm vs H R E q⟩
theorem walk {l : PySem.W.OpenLaw} {q : Program} {loose : List Str} {XP : (Str → Option Value) → Heap → Prop} {YP : World → Heap → Prop} {d : DefRec} {K : Params → PySem.W.Frag} (hn : l.most = some 63) (hdf : d.params.defaults = [])
    (hY : ∀ (w : World) (h : Heap), YP w h → (K w.params).In h)
    (F : ∀ (w : World) (mg : Str → Option Value) (fa : Addr) (h : Heap), (K w.params).In h → h.Ns mainGlobals mg → mg d.name = some (.ref fa) →
      ∃ fd : FuncData, (∀ (s : Shared) (u : Value), BindsTo s fd ⟨[u], []⟩ [("script", u)]) ∧ ∀ base : Heap, (K w.params).In base → base.Ns mainGlobals mg → FnOk l.prog w (K w.params) mg base (L2.CX l.prog w) 10 fa fd ["script"] (Q.spL (K w.params))) :
    PySem.W.WalkO q loose XP YP l.row.toRowW d [] (fun f vs => PySem.call f vs) :=
  L2.walk_of (n := 63) (k := 10) (x := "script") (CX := fun w => L2.CX l.prog w) (sp := fun w => Q.spL (K w.params)) hn (by decide) hdf ⟨rfl, by decide, by decide⟩ hY F (fun _ _ a ns hl _ hS => ⟨a, ns, rfl, hS, hl, fun _ => rfl⟩) (fun w H s e s' z => Q.cx0 H s e s' z)
end K24
open PySem PySem.W PyProof.Rows in
set_option maxRecDepth 100000 in
set_option maxHeartbeats 0 in
theorem PySem.Challenge.cw_tokenhalls_k24_whole_steps_of_deeds_at_o_holds : PySem.Challenge.rw_tokenhalls_k24_whole_steps_of_deeds_at_o.Holds := by
  w_on; o_law; k_head; (case hw => w_witness2)
  k_fill
  refine K24.walk (l := PySem.Challenge.rw_tokenhalls_k24_whole_steps_of_deeds_at_o) rfl rfl (fun w h Y => PySem.W.kIn_of Y) ?F
  case F =>
    intro w mg fa h KX G hmg
    refine' K24.all_mk KX G hmg ?a1 ?l1 ?c1 ?k1 ?a2 ?l2 ?c2 ?k2 ?a3 ?l3 ?c3 ?k3 ?a4 ?l4 ?c4 ?k4 ?a5 ?l5 ?c5 ?k5 ?a6 ?l6 ?c6 ?k6 ?a7 ?l7 ?c7 ?k7 ?a8 ?l8 ?c8 ?k8 ?a9 ?l9 ?c9 ?k9 ?a10 ?l10 ?c10 ?k10 ?a11 ?l11 ?c11 ?k11 ?a12 ?l12 ?c12 ?k12 ?a13 ?l13 ?c13 ?k13 ?a14 ?l14 ?c14 ?k14 ?a15 ?l15 ?c15 ?k15 ?a16 ?l16 ?c16 ?k16 ?a17 ?l17 ?c17 ?k17 ?a18 ?l18 ?c18 ?k18 ?a19 ?l19 ?c19 ?k19 ?a20 ?l20 ?c20 ?k20 ?a21 ?l21 ?c21 ?k21 ?a22 ?l22 ?c22 ?k22 ?a23 ?l23 ?c23 ?k23 ?a24 ?l24 ?c24 ?k24 ?a25 ?l25 ?c25 ?k25 ?a26 ?l26 ?c26 ?k26 ?a27 ?l27 ?c27 ?k27 ?a28 ?l28 ?c28 ?k28 ?a29 ?l29 ?c29 ?k29 ?a30 ?l30 ?c30 ?k30 ?a31 ?l31 ?c31 ?k31 ?a32 ?l32 ?c32 ?k32 ?a33 ?l33 ?c33 ?k33 ?a34 ?l34 ?c34 ?k34 ?a35 ?l35 ?c35 ?k35 ?a36 ?l36 ?c36 ?k36 ?a37 ?l37 ?c37 ?k37 ?a38 ?l38 ?c38 ?k38 ?z_all ?z_any ?z_bool ?z_enumerate ?z_int ?z_isinstance ?z_len ?z_list ?z_max ?z_min ?z_range ?z_sorted ?z_str ?z_sum ?z_tuple ?z_zip ?kc_MOST_TIMES
    (case a1 => k_is)
    (case l1 => k_is)
    (case c1 => k_is)
    (case k1 => k_is)
    (case a2 => k_is)
    (case l2 => k_is)
    (case c2 => k_is)
    (case k2 => k_is)
    (case a3 => k_is)
    (case l3 => k_is)
    (case c3 => k_is)
    (case k3 => k_is)
    (case a4 => k_is)
    (case l4 => k_is)
    (case c4 => k_is)
    (case k4 => k_is)
    (case a5 => k_is)
    (case l5 => k_is)
    (case c5 => k_is)
    (case k5 => k_is)
    (case a6 => k_is)
    (case l6 => k_is)
    (case c6 => k_is)
    (case k6 => k_is)
    (case a7 => k_is)
    (case l7 => k_is)
    (case c7 => k_is)
    (case k7 => k_is)
    (case a8 => k_is)
    (case l8 => k_is)
    (case c8 => k_is)
    (case k8 => k_is)
    (case a9 => k_is)
    (case l9 => k_is)
    (case c9 => k_is)
    (case k9 => k_is)
    (case a10 => k_is)
    (case l10 => k_is)
    (case c10 => k_is)
    (case k10 => k_is)
    (case a11 => k_is)
    (case l11 => k_is)
    (case c11 => k_is)
    (case k11 => k_is)
    (case a12 => k_is)
    (case l12 => k_is)
    (case c12 => k_is)
    (case k12 => k_is)
    (case a13 => k_is)
    (case l13 => k_is)
    (case c13 => k_is)
    (case k13 => k_is)
    (case a14 => k_is)
    (case l14 => k_is)
    (case c14 => k_is)
    (case k14 => k_is)
    (case a15 => k_is)
    (case l15 => k_is)
    (case c15 => k_is)
    (case k15 => k_is)
    (case a16 => k_is)
    (case l16 => k_is)
    (case c16 => k_is)
    (case k16 => k_is)
    (case a17 => k_is)
    (case l17 => k_is)
    (case c17 => k_is)
    (case k17 => k_is)
    (case a18 => k_is)
    (case l18 => k_is)
    (case c18 => k_is)
    (case k18 => k_is)
    (case a19 => k_is)
    (case l19 => k_is)
    (case c19 => k_is)
    (case k19 => k_is)
    (case a20 => k_is)
    (case l20 => k_is)
    (case c20 => k_is)
    (case k20 => k_is)
    (case a21 => k_is)
    (case l21 => k_is)
    (case c21 => k_is)
    (case k21 => k_is)
    (case a22 => k_is)
    (case l22 => k_is)
    (case c22 => k_is)
    (case k22 => k_is)
    (case a23 => k_is)
    (case l23 => k_is)
    (case c23 => k_is)
    (case k23 => k_is)
    (case a24 => k_is)
    (case l24 => k_is)
    (case c24 => k_is)
    (case k24 => k_is)
    (case a25 => k_is)
    (case l25 => k_is)
    (case c25 => k_is)
    (case k25 => k_is)
    (case a26 => k_is)
    (case l26 => k_is)
    (case c26 => k_is)
    (case k26 => k_is)
    (case a27 => k_is)
    (case l27 => k_is)
    (case c27 => k_is)
    (case k27 => k_is)
    (case a28 => k_is)
    (case l28 => k_is)
    (case c28 => k_is)
    (case k28 => k_is)
    (case a29 => k_is)
    (case l29 => k_is)
    (case c29 => k_is)
    (case k29 => k_is)
    (case a30 => k_is)
    (case l30 => k_is)
    (case c30 => k_is)
    (case k30 => k_is)
    (case a31 => k_is)
    (case l31 => k_is)
    (case c31 => k_is)
    (case k31 => k_is)
    (case a32 => k_is)
    (case l32 => k_is)
    (case c32 => k_is)
    (case k32 => k_is)
    (case a33 => k_is)
    (case l33 => k_is)
    (case c33 => k_is)
    (case k33 => k_is)
    (case a34 => k_is)
    (case l34 => k_is)
    (case c34 => k_is)
    (case k34 => k_is)
    (case a35 => k_is)
    (case l35 => k_is)
    (case c35 => k_is)
    (case k35 => k_is)
    (case a36 => k_is)
    (case l36 => k_is)
    (case c36 => k_is)
    (case k36 => k_is)
    (case a37 => k_is)
    (case l37 => k_is)
    (case c37 => k_is)
    (case k37 => k_is)
    (case a38 => k_is)
    (case l38 => k_is)
    (case c38 => k_is)
    (case k38 => k_is)
    (case z_all => k_is)
    (case z_any => k_is)
    (case z_bool => k_is)
    (case z_enumerate => k_is)
    (case z_int => k_is)
    (case z_isinstance => k_is)
    (case z_len => k_is)
    (case z_list => k_is)
    (case z_max => k_is)
    (case z_min => k_is)
    (case z_range => k_is)
    (case z_sorted => k_is)
    (case z_str => k_is)
    (case z_sum => k_is)
    (case z_tuple => k_is)
    (case z_zip => k_is)
    (case kc_MOST_TIMES => k_is)
