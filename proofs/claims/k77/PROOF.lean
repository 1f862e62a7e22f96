import PyProof.Rows.All
import Wide.All
import OpenK.AllK
import Wide.FinOn
import HandS.ForMost
import HandS.ForSpec
import HandS.HeadHook1
import HandS.IsInst
import KE.SortKeyed
import HandS.TupAny
import HandS.TupLe
import HandS.SortInts
import HandS.Wide
import HandS.TupMul
import HandS.More
import HandS.Deep
import HandS.NoneIn
import HandS.CallSlots
import HandS.Zip
import HandS.Iter
import HandS.Rev
import HandS.Small
import HandS.ExcOwn
import HandS.Style
import HandS.Defaults
import HandS.Ends
import HandS.HeadEnd
import HandS.Words
import HandS.WordsExc
import HandS.WideBits
import HandS.Head0
import HandS.Head1
import HandS.Head2
import HandS.HeadHook2
import HandS.SetFor
import KE.KDictPairs
import KE.DataFind
import KE.SortData
import KE.DataMinMax
import HandS.ExcIs
import HandS.TryOnly
import HandS.HotCalls
import KE.KStateDown
import Lean
import PySem.Challenge.RW_brimyard_k77_whole_counts_changed
set_option Elab.async false
set_option linter.all false
set_option maxRecDepth 100000
/-! BrA: plain values, how they lie in the heap, the state of a frame. -/
namespace Br
open PySem PySem.Spec PyProof.Rows L2

/-- plain values -/
inductive PV where
  | non | bl (b : Bool) | int (i : Int) | str (x : Str) | ty (n : String) | exc (c : Str)
  | tup (l : List PV) | xt (l : List PV) | lst (l : List PV) | dK (ks : List Key) (l : List PV) | dT (ks : List (List Key)) (l : List PV)
  deriving Inhabited

/-- .. as any tuple -/
def PV.dn : PV → PV
  | .xt l => .tup l
  | p => p
/-- a list that is read: tracked, known, or the script among the module's objects -/
def SqE (K : PySem.W.Frag) (H : Hp) (a : Addr) (xs : List V) : Prop := Rd H a (.lst xs) ∨ ∃ (its : Array Value) (n : Nat), K.lookup a = some { cls := .type "list", data := .seq its n } ∧ its.size ≤ sizeLine ∧ Vals xs its.toList
theorem SqE.sql {K : PySem.W.Frag} {H : Hp} {a : Addr} {xs : List V} (h : SqE K H a xs) : SqL K H a xs := by
  rcases h with h | ⟨its, n, h, hz, r⟩
  · exact .inl h
  · exact .inr ⟨_, its, n, h, rfl, rfl, rfl, hz, r⟩
/-- an exception object of the own class c -/
def ExcR (K : PySem.W.Frag) (F : Hp) (c : Str) (v : V) : Prop := ∃ a oe vs, v = .ref a ∧ F a = some (.ext fun h => h.get? a = some oe) ∧ Zc (.ref (He.ga K c)) none oe ∧ oe.data = .fields vs

mutual
def Rep (K : PySem.W.Frag) (F : Hp) : PV → V → Prop
  | .non, v => v = .non
  | .bl b, v => v = .bl b
  | .int i, v => v = .int i
  | .str x, v => v = .str x
  | .ty n, v => v = .ty n
  | .exc c, v => ExcR K F c v
  | .tup l, v => ∃ a xs, v = .ref a ∧ SqT K F a xs ∧ Reps K F l xs
  | .xt l, v => ∃ a xs o, v = .ref a ∧ F a = some (.frz o (.tup xs)) ∧ o.dict = none ∧ Reps K F l xs
  | .lst l, v => ∃ a xs, v = .ref a ∧ SqE K F a xs ∧ Reps K F l xs
  | .dK ks l, v => ∃ a xs, v = .ref a ∧ Rd F a (.dK (ks.zip xs)) ∧ ks.length = xs.length ∧ ks.Nodup ∧ Reps K F l xs
  | .dT ks l, v => ∃ a xs, v = .ref a ∧ F a = some (.dT (ks.zip xs)) ∧ ks.length = xs.length ∧ ks.Nodup ∧ Reps K F l xs
def Reps (K : PySem.W.Frag) (F : Hp) : List PV → List V → Prop
  | [], xs => xs = []
  | p :: l, xs => ∃ x r, xs = x :: r ∧ Rep K F p x ∧ Reps K F l r
end

section
variable {K : PySem.W.Frag} {F F' H H' : Hp}
theorem Same.sqt {a : Addr} {xs : List V} (e : Same F F') (h : SqT K F a xs) : SqT K F' a xs := by
  rcases h with (h | ⟨o, h⟩) | h
  · exact .inl (.inl (e _ _ h))
  · exact .inl (.inr ⟨o, e _ _ h⟩)
  · exact .inr h
theorem Same.sqe {a : Addr} {xs : List V} (e : Same F F') (h : SqE K F a xs) : SqE K F' a xs := by
  rcases h with (h | ⟨o, h⟩) | h
  · exact .inl (.inl (e _ _ h))
  · exact .inl (.inr ⟨o, e _ _ h⟩)
  · exact .inr h
theorem Rdm {a : Addr} {u : HO} (e : Same F F') (h : Rd F a u) : Rd F' a u := by
  rcases h with h | ⟨o, h⟩
  · exact .inl (e _ _ h)
  · exact .inr ⟨o, e _ _ h⟩
mutual
theorem Rep.mono (e : Same F F') : ∀ {p : PV} {v : V}, Rep K F p v → Rep K F' p v
  | .non, _, h => h
  | .bl _, _, h => h
  | .int _, _, h => h
  | .str _, _, h => h
  | .ty _, _, h => h
  | .exc _, _, h => by
    obtain ⟨a, oe, vs, h1, h2, h3⟩ := h
    exact ⟨a, oe, vs, h1, e _ _ h2, h3⟩
  | .tup l, _, h => by
    obtain ⟨a, xs, h1, h2, h3⟩ := h
    exact ⟨a, xs, h1, Same.sqt e h2, Reps.mono e h3⟩
  | .xt l, _, h => by
    obtain ⟨a, xs, o, h1, h2, h3, h4⟩ := h
    exact ⟨a, xs, o, h1, e _ _ h2, h3, Reps.mono e h4⟩
  | .lst l, _, h => by
    obtain ⟨a, xs, h1, h2, h3⟩ := h
    exact ⟨a, xs, h1, Same.sqe e h2, Reps.mono e h3⟩
  | .dK ks l, _, h => by
    obtain ⟨a, xs, h1, h2, h3, h4, h5⟩ := h
    exact ⟨a, xs, h1, Rdm e h2, h3, h4, Reps.mono e h5⟩
  | .dT ks l, _, h => by
    obtain ⟨a, xs, h1, h2, h3, h4, h5⟩ := h
    exact ⟨a, xs, h1, e _ _ h2, h3, h4, Reps.mono e h5⟩
theorem Reps.mono (e : Same F F') : ∀ {l : List PV} {xs : List V}, Reps K F l xs → Reps K F' l xs
  | [], _, h => h
  | p :: l, _, h => by
    obtain ⟨x, r, h1, h2, h3⟩ := h
    exact ⟨x, r, h1, Rep.mono e h2, Reps.mono e h3⟩
end
/-- a tuple whose object is known, as any tuple -/
theorem Rep.dn {p : PV} {v : V} (h : Rep K F p v) : Rep K F (PV.dn p) v := by
  cases p with
  | xt l => obtain ⟨a, xs, o, h1, h2, h3, h4⟩ := h; exact ⟨a, xs, h1, .inl (.inr ⟨o, h2⟩), h4⟩
  | _ => exact h
theorem Reps.nil : Reps K F [] [] := rfl
theorem Reps.cons {p : PV} {x : V} {l : List PV} {r : List V} (h : Rep K F p x) (t : Reps K F l r) : Reps K F (p :: l) (x :: r) := ⟨x, r, rfl, h, t⟩
theorem Reps.length : ∀ {l : List PV} {xs : List V}, Reps K F l xs → l.length = xs.length
  | [], _, h => by
    have h1 : _ = [] := h
    rw [h1]
    rfl
  | p :: l, _, h => by
    obtain ⟨x, r, rfl, h2, h3⟩ := h
    simp [h3.length]
theorem Reps.append : ∀ {l m : List PV} {xs ys : List V}, Reps K F l xs → Reps K F m ys → Reps K F (l ++ m) (xs ++ ys)
  | [], _, _, _, h, k => by
    have h1 : _ = [] := h
    subst h1
    exact k
  | p :: l, _, _, _, h, k => by
    obtain ⟨x, r, rfl, h2, h3⟩ := h
    exact .cons h2 (h3.append k)
theorem Reps.get : ∀ {l : List PV} {xs : List V} {i : Nat} {p : PV}, Reps K F l xs → l[i]? = some p → ∃ x, xs[i]? = some x ∧ Rep K F p x
  | [], _, _, _, _, e => by simp at e
  | p :: l, _, 0, q, h, e => by
    obtain ⟨x, r, rfl, h2, h3⟩ := h
    simp at e
    subst e
    exact ⟨x, rfl, h2⟩
  | p :: l, _, i + 1, q, h, e => by
    obtain ⟨x, r, rfl, h2, h3⟩ := h
    exact h3.get (i := i) (by simpa using e)
theorem Reps.get' {l : List PV} {xs : List V} {i : Nat} {x : V} (h : Reps K F l xs) (e : xs[i]? = some x) : ∃ p, l[i]? = some p ∧ Rep K F p x := by
  have hl := h.length
  obtain ⟨hi, _⟩ := List.getElem?_eq_some_iff.mp e
  have hi2 : i < l.length := by omega
  obtain ⟨y, h1, h2⟩ := h.get (List.getElem?_eq_getElem hi2)
  rw [e] at h1
  cases h1
  exact ⟨_, List.getElem?_eq_getElem hi2, h2⟩
theorem Reps.take : ∀ {l : List PV} {xs : List V} (n : Nat), Reps K F l xs → Reps K F (l.take n) (xs.take n)
  | _, _, 0, _ => by simp [Reps.nil]
  | [], _, n + 1, h => by
    have h1 : _ = [] := h
    subst h1
    exact h
  | p :: l, _, n + 1, h => by
    obtain ⟨x, r, rfl, h2, h3⟩ := h
    exact .cons h2 (h3.take n)
theorem Reps.drop : ∀ {l : List PV} {xs : List V} (n : Nat), Reps K F l xs → Reps K F (l.drop n) (xs.drop n)
  | _, _, 0, h => h
  | [], _, n + 1, h => by
    have h1 : _ = [] := h
    subst h1
    exact h
  | p :: l, _, n + 1, h => by
    obtain ⟨x, r, rfl, h2, h3⟩ := h
    exact h3.drop n
theorem Reps.set {p : PV} {x : V} (hp : Rep K F p x) : ∀ {l : List PV} {xs : List V} (n : Nat), Reps K F l xs → Reps K F (l.set n p) (xs.set n x)
  | [], _, _, h => by
    have h1 : _ = [] := h
    subst h1
    exact h
  | q :: l, _, 0, h => by
    obtain ⟨y, r, rfl, h2, h3⟩ := h
    exact .cons hp h3
  | q :: l, _, n + 1, h => by
    obtain ⟨y, r, rfl, h2, h3⟩ := h
    exact .cons h2 (h3.set hp n)
theorem Reps.reverse : ∀ {l : List PV} {xs : List V}, Reps K F l xs → Reps K F l.reverse xs.reverse
  | [], _, h => by
    have h1 : _ = [] := h
    subst h1
    exact h
  | p :: l, _, h => by
    obtain ⟨x, r, rfl, h2, h3⟩ := h
    rw [List.reverse_cons, List.reverse_cons]
    exact h3.reverse.append (.cons h2 .nil)
theorem Reps.eraseIdx : ∀ {l : List PV} {xs : List V} (n : Nat), Reps K F l xs → Reps K F (l.eraseIdx n) (xs.eraseIdx n)
  | [], _, n, h => by
    have h1 : _ = [] := h
    subst h1
    exact h
  | p :: l, _, 0, h => by
    obtain ⟨x, r, rfl, h2, h3⟩ := h
    exact h3
  | p :: l, _, n + 1, h => by
    obtain ⟨x, r, rfl, h2, h3⟩ := h
    exact .cons h2 (h3.eraseIdx n)
theorem Reps.dropLast {l : List PV} {xs : List V} (h : Reps K F l xs) : Reps K F l.dropLast xs.dropLast := by
  rw [List.dropLast_eq_take, List.dropLast_eq_take, h.length]
  exact h.take _
theorem Reps.ints : ∀ {ns : List Int} {xs : List V}, Reps K F (ns.map PV.int) xs → xs = ns.map V.int
  | [], _, h => h
  | n :: ns, _, h => by
    obtain ⟨x, r, rfl, h2, h3⟩ := h
    have h4 : x = .int n := h2
    rw [h4, Reps.ints h3]
    rfl
theorem Reps.of_ints : ∀ (ns : List Int), Reps K F (ns.map PV.int) (ns.map V.int)
  | [] => .nil
  | n :: ns => .cons rfl (Reps.of_ints ns)
end

/-! ### values that a frame's names hold -/
/-- fro: never written again; own: a list or a dict that no one else holds; ins: an instance that no one else holds -/
inductive LV where
  | fro (p : PV) | own (p : PV) | ins (c : Str) (ns : List Str) (ls : List LV)
  deriving Inhabited
abbrev Env := List (Option LV)

def OwnAt (K : PySem.W.Frag) (F H : Hp) (a : Addr) : PV → Prop
  | .lst l => ∃ xs, H a = some (.lst xs) ∧ Reps K F l xs
  | .dK ks l => ∃ xs, H a = some (.dK (ks.zip xs)) ∧ ks.length = xs.length ∧ ks.Nodup ∧ Reps K F l xs
  | .dT ks l => ∃ xs, H a = some (.dT (ks.zip xs)) ∧ ks.length = xs.length ∧ ks.Nodup ∧ Reps K F l xs
  | _ => False
theorem OwnAt.some {K : PySem.W.Frag} {F H : Hp} {a : Addr} {p : PV} (h : OwnAt K F H a p) : ∃ o, H a = .some o := by
  cases p with
  | lst l => obtain ⟨xs, h, _⟩ := h; exact ⟨_, h⟩
  | dK ks l => obtain ⟨xs, h, _⟩ := h; exact ⟨_, h⟩
  | dT ks l => obtain ⟨xs, h, _⟩ := h; exact ⟨_, h⟩
  | _ => exact False.elim h
theorem OwnAt.frame {K : PySem.W.Frag} {F H F' H' : Hp} {a : Addr} {p : PV} (e : Same F F') (k : H' a = H a) (h : OwnAt K F H a p) : OwnAt K F' H' a p := by
  cases p with
  | lst l => obtain ⟨xs, h, h2⟩ := h; exact ⟨xs, k.trans h, h2.mono e⟩
  | dK ks l => obtain ⟨xs, h, h2, h3, h4⟩ := h; exact ⟨xs, k.trans h, h2, h3, h4.mono e⟩
  | dT ks l => obtain ⟨xs, h, h2, h3, h4⟩ := h; exact ⟨xs, k.trans h, h2, h3, h4.mono e⟩
  | _ => exact False.elim h
/-- what lies at a, frozen, is the value -/
theorem OwnAt.rep {K : PySem.W.Frag} {F H : Hp} {a : Addr} {p : PV} (h : OwnAt K F H a p) (e : Same F H) : Rep K H p (.ref a) := by
  cases p with
  | lst l => obtain ⟨xs, h, h2⟩ := h; exact ⟨a, xs, rfl, .inl (.inl h), h2.mono e⟩
  | dK ks l => obtain ⟨xs, h, h2, h3, h4⟩ := h; exact ⟨a, xs, rfl, .inl h, h2, h3, h4.mono e⟩
  | dT ks l => obtain ⟨xs, h, h2, h3, h4⟩ := h; exact ⟨a, xs, rfl, h, h2, h3, h4.mono e⟩
  | _ => exact False.elim h
/-- .. also over a smaller frozen heap that has the object -/
theorem OwnAt.repF {K : PySem.W.Frag} {F H : Hp} {a : Addr} {p : PV} {o : HO} (h : OwnAt K F H a p) (ha : H a = .some o) (n : F a = none) : Rep K (upd F a o) p (.ref a) := by
  have e : Same F (upd F a o) := fun b u q => by rw [upd_ne (ne_of_none q n)]; exact q
  cases p with
  | lst l => obtain ⟨xs, h, h2⟩ := h; rw [ha] at h; cases h; exact ⟨a, xs, rfl, .inl (.inl upd_same), h2.mono e⟩
  | dK ks l => obtain ⟨xs, h, h2, h3, h4⟩ := h; rw [ha] at h; cases h; exact ⟨a, xs, rfl, .inl upd_same, h2, h3, h4.mono e⟩
  | dT ks l => obtain ⟨xs, h, h2, h3, h4⟩ := h; rw [ha] at h; cases h; exact ⟨a, xs, rfl, upd_same, h2, h3, h4.mono e⟩
  | _ => exact False.elim h

mutual
/-- how a name's value lies in the heap, and the addresses that it owns -/
def RepL (K : PySem.W.Frag) (F H : Hp) : LV → V → List Addr → Prop
  | .fro p, v, fp => Rep K F p v ∧ fp = []
  | .own p, v, fp => ∃ a, v = .ref a ∧ OwnAt K F H a p ∧ fp = [a]
  | .ins c ns ls, v, fp => ∃ a dx vs fr, v = .ref a ∧ H a = some (.ins (He.ga K c) dx (ns.zip vs)) ∧ ns.length = vs.length ∧ ns.Nodup ∧ RepLs K F H ls vs fr ∧ fp = a :: fr
def RepLs (K : PySem.W.Frag) (F H : Hp) : List LV → List V → List Addr → Prop
  | [], vs, fp => vs = [] ∧ fp = []
  | l :: ls, vs, fp => ∃ v r f1 f2, vs = v :: r ∧ RepL K F H l v f1 ∧ RepLs K F H ls r f2 ∧ fp = f1 ++ f2
end
section
variable {K : PySem.W.Frag} {F F' H H' : Hp}
mutual
theorem RepL.frame (e : Same F F') : ∀ {l : LV} {v : V} {fp : List Addr}, RepL K F H l v fp → (∀ a ∈ fp, H' a = H a) → RepL K F' H' l v fp
  | .fro p, _, _, h, _ => ⟨h.1.mono e, h.2⟩
  | .own p, _, _, h, k => by
    obtain ⟨a, h1, h2, rfl⟩ := h
    exact ⟨a, h1, h2.frame e (k a (by simp)), rfl⟩
  | .ins c ns ls, _, _, h, k => by
    obtain ⟨a, dx, vs, fr, h1, h2, h3, h4, h5, rfl⟩ := h
    exact ⟨a, dx, vs, fr, h1, (k a (by simp)).trans h2, h3, h4, RepLs.frame e h5 fun b hb => k b (by simp [hb]), rfl⟩
theorem RepLs.frame (e : Same F F') : ∀ {ls : List LV} {vs : List V} {fp : List Addr}, RepLs K F H ls vs fp → (∀ a ∈ fp, H' a = H a) → RepLs K F' H' ls vs fp
  | [], _, _, h, _ => h
  | l :: ls, _, _, h, k => by
    obtain ⟨v, r, f1, f2, h1, h2, h3, rfl⟩ := h
    exact ⟨v, r, f1, f2, h1, RepL.frame e h2 fun a ha => k a (by simp [ha]), RepLs.frame e h3 fun a ha => k a (by simp [ha]), rfl⟩
end
mutual
theorem RepL.there : ∀ {l : LV} {v : V} {fp : List Addr}, RepL K F H l v fp → ∀ a ∈ fp, ∃ o, H a = some o
  | .fro p, _, _, h, a, ha => by rw [h.2] at ha; cases ha
  | .own p, _, _, h, a, ha => by
    obtain ⟨b, h1, h2, rfl⟩ := h
    obtain rfl : a = b := by simpa using ha
    exact h2.some
  | .ins c ns ls, _, _, h, a, ha => by
    obtain ⟨b, dx, vs, fr, h1, h2, h3, h4, h5, rfl⟩ := h
    rcases List.mem_cons.mp ha with rfl | ha
    · exact ⟨_, h2⟩
    · exact RepLs.there h5 a ha
theorem RepLs.there : ∀ {ls : List LV} {vs : List V} {fp : List Addr}, RepLs K F H ls vs fp → ∀ a ∈ fp, ∃ o, H a = some o
  | [], _, _, h, a, ha => by rw [h.2] at ha; cases ha
  | l :: ls, _, _, h, a, ha => by
    obtain ⟨v, r, f1, f2, h1, h2, h3, rfl⟩ := h
    rcases List.mem_append.mp ha with ha | ha
    · exact RepL.there h2 a ha
    · exact RepLs.there h3 a ha
end
theorem RepLs.length : ∀ {ls : List LV} {vs : List V} {fp : List Addr}, RepLs K F H ls vs fp → ls.length = vs.length
  | [], _, _, h => by rw [h.1]; rfl
  | l :: ls, _, _, h => by
    obtain ⟨v, r, f1, f2, rfl, h2, h3, rfl⟩ := h
    simp [h3.length]
end

/-- what a def's run started from: K, the heap, what was frozen, what the arguments own -/
structure Cb where
  K : PySem.W.Frag
  H0 : Hp
  F0 : Hp
  A0 : List Addr
/-- may be written -/
def Cb.O (C : Cb) (a : Addr) : Prop := a ∈ C.A0 ∨ C.H0 a = none

/-- THE STATE of a frame -/
structure SR (C : Cb) (F : Hp) (ρ : Env) (σ : L2.St) (H : Hp) : Prop where
  le : Same F H
  f0 : Same C.F0 F
  keep : ∀ a o, C.H0 a = some o → a ∉ C.A0 → H a = some o
  fo : ∀ a, F a ≠ none → C.F0 a ≠ none ∨ C.O a
  len : ρ.length = σ.length
  own : ∃ fp : Nat → List Addr, (∀ i l, ρ[i]? = some (some l) → ∃ v, σ[i]? = some (some v) ∧ RepL C.K F H l v (fp i) ∧ (fp i).Nodup ∧ ∀ a ∈ fp i, F a = none ∧ C.O a) ∧
    ∀ i j l m, i ≠ j → ρ[i]? = some (some l) → ρ[j]? = some (some m) → ∀ a ∈ fp i, a ∉ fp j

section
variable {C : Cb} {F F' H H' : Hp} {ρ : Env} {σ : L2.St}
theorem SR.fresh (s : SR C F ρ σ H) {p : Addr} (n : H p = none) : C.O p := by
  by_cases hp : p ∈ C.A0
  · exact .inl hp
  · refine .inr ?_
    cases e : C.H0 p with
    | none => rfl
    | some o => rw [s.keep p o e hp] at n; cases n
theorem SR.fnone (s : SR C F ρ σ H) {p : Addr} (n : H p = none) : F p = none := s.le.free n
theorem same_updF (n : F p = none) : Same F (upd F p o) := fun b u q => by rw [upd_ne (ne_of_none q n)]; exact q
/-- a change of the heap that keeps what the names own -/
theorem SR.grow (s : SR C F ρ σ H) (e : Same F F') (le : Same F' H') (keep : ∀ a o, C.H0 a = some o → a ∉ C.A0 → H' a = some o) (fo : ∀ a, F' a ≠ none → F a ≠ none ∨ (C.O a ∧ H a = none))
    (k : ∀ a o, H a = some o → H' a = some o) : SR C F' ρ σ H' := by
  obtain ⟨fp, h1, h2⟩ := s.own
  refine ⟨le, s.f0.trans e, keep, fun a n => ?_, s.len, fp, fun i l hl => ?_, h2⟩
  · rcases fo a n with q | q
    · exact s.fo a q
    · exact .inr q.1
  · obtain ⟨v, hv, r, nd, q⟩ := h1 i l hl
    refine ⟨v, hv, r.frame e fun a ha => ?_, nd, fun a ha => ⟨?_, (q a ha).2⟩⟩
    · obtain ⟨o, ho⟩ := r.there a ha
      rw [k a o ho, ho]
    · cases z : F' a with
      | none => rfl
      | some o =>
        obtain ⟨o', ho⟩ := r.there a ha
        rcases fo a (by rw [z]; exact fun w => nomatch w) with w | w
        · exact absurd (q a ha).1 w
        · rw [ho] at w; cases w.2
/-- a new object, frozen at once -/
theorem SR.alloc (s : SR C F ρ σ H) {p : Addr} (n : H p = none) (o : HO) : SR C (upd F p o) ρ σ (upd H p o) := by
  have e : Same F (upd F p o) := same_updF (s.fnone n)
  refine s.grow e (fun b u q => ?_) (fun a u h1 h2 => ?_) (fun a q => ?_) (fun a u q => ?_)
  · by_cases hb : b = p
    · subst hb; rw [upd_same] at q ⊢; exact q
    · rw [upd_ne hb] at q ⊢; exact s.le b u q
  · have := s.keep a u h1 h2
    rw [upd_ne (ne_of_none this n)]; exact this
  · by_cases ha : a = p
    · subst ha; exact .inr ⟨s.fresh n, n⟩
    · rw [upd_ne ha] at q; exact .inl q
  · rw [upd_ne (ne_of_none q n)]; exact q
/-- a new object, not frozen -/
theorem SR.allocH (s : SR C F ρ σ H) {p : Addr} (n : H p = none) (o : HO) : SR C F ρ σ (upd H p o) := by
  refine s.grow (Same.refl F) (fun b u q => ?_) (fun a u h1 h2 => ?_) (fun a q => .inl q) (fun a u q => ?_)
  · rw [upd_ne (ne_of_none (s.le b u q) n)]; exact s.le b u q
  · have := s.keep a u h1 h2
    rw [upd_ne (ne_of_none this n)]; exact this
  · rw [upd_ne (ne_of_none q n)]; exact q
theorem SR.get (s : SR C F ρ σ H) {i : Nat} {l : LV} (h : ρ[i]? = some (some l)) : ∃ v fp, σ[i]? = some (some v) ∧ RepL C.K F H l v fp := by
  obtain ⟨fp, h1, h2⟩ := s.own
  obtain ⟨v, hv, r, _⟩ := h1 i l h
  exact ⟨v, _, hv, r⟩
theorem SR.fro (s : SR C F ρ σ H) {i : Nat} {p : PV} (h : ρ[i]? = some (some (.fro p))) : ∃ v, σ[i]? = some (some v) ∧ Rep C.K F p v := by
  obtain ⟨v, fp, hv, r⟩ := s.get h
  exact ⟨v, hv, r.1⟩
theorem SR.ownAt (s : SR C F ρ σ H) {i : Nat} {p : PV} (h : ρ[i]? = some (some (.own p))) : ∃ a, σ[i]? = some (some (.ref a)) ∧ OwnAt C.K F H a p ∧ F a = none ∧ C.O a := by
  obtain ⟨fp, h1, h2⟩ := s.own
  obtain ⟨v, hv, ⟨a, rfl, oa, e⟩, _, q⟩ := h1 i _ h
  have := q a (by rw [e]; simp)
  exact ⟨a, hv, oa, this.1, this.2⟩
theorem set_get {α : Type} {l : List α} {i j : Nat} {x y : α} (h : (l.set i x)[j]? = some y) : (i = j ∧ x = y ∧ i < l.length) ∨ (i ≠ j ∧ l[j]? = some y) := by
  by_cases e : i = j
  · subst e
    by_cases hi : i < l.length
    · rw [List.getElem?_set_self hi] at h; exact .inl ⟨rfl, Option.some.inj h, hi⟩
    · rw [List.getElem?_eq_none (by simpa using hi)] at h; cases h
  · rw [List.getElem?_set_ne e] at h; exact .inr ⟨e, h⟩
/-- a slot forgotten (in the state of the values) -/
theorem SR.clear (s : SR C F ρ σ H) (i : Nat) (x : Option V) : SR C F (ρ.set i none) (σ.set i x) H := by
  obtain ⟨fp, h1, h2⟩ := s.own
  refine ⟨s.le, s.f0, s.keep, s.fo, by simp [s.len], fp, fun j l hl => ?_, fun j k l m hjk hl hm => ?_⟩
  · rcases set_get hl with ⟨_, q, _⟩ | ⟨q, hl⟩
    · cases q
    · rw [List.getElem?_set_ne q]
      exact h1 j l hl
  · rcases set_get hl with ⟨_, q, _⟩ | ⟨_, hl⟩
    · cases q
    rcases set_get hm with ⟨_, q, _⟩ | ⟨_, hm⟩
    · cases q
    exact h2 j k l m hjk hl hm
/-- one more value at hand, frozen -/
theorem SR.push (s : SR C F ρ σ H) {p : PV} {v : V} (r : Rep C.K F p v) : SR C F (some (.fro p) :: ρ) (some v :: σ) H := by
  obtain ⟨fp, h1, h2⟩ := s.own
  refine ⟨s.le, s.f0, s.keep, s.fo, by simp [s.len], fun i => match i with | 0 => [] | i + 1 => fp i, fun j l hl => ?_, fun j k l m hjk hl hm => ?_⟩
  · cases j with
    | zero =>
      simp only [List.getElem?_cons_zero, Option.some.injEq] at hl
      subst hl
      exact ⟨v, rfl, ⟨r, rfl⟩, List.nodup_nil, fun a ha => nomatch ha⟩
    | succ j => exact h1 j l (by simpa using hl)
  · cases j with
    | zero => exact fun a ha => nomatch ha
    | succ j =>
      cases k with
      | zero => exact fun a ha hb => nomatch hb
      | succ k => exact h2 j k l m (fun e => hjk (by rw [e])) (by simpa using hl) (by simpa using hm)
/-- .. a new object of our own -/
theorem SR.pushNew (s : SR C F ρ σ H) {a : Addr} {o : HO} (n : H a = none) {p : PV} (r : OwnAt C.K F (upd H a o) a p) : SR C F (some (.own p) :: ρ) (some (.ref a) :: σ) (upd H a o) := by
  have s' := s.allocH n o
  obtain ⟨fp, h1, h2⟩ := s.own
  have no : ∀ j l, ρ[j]? = some (some l) → a ∉ fp j := fun j l hl ha => by
    obtain ⟨v, _, r, _⟩ := h1 j l hl
    obtain ⟨u, hu⟩ := r.there a ha
    rw [n] at hu; cases hu
  refine ⟨s'.le, s.f0, s'.keep, s.fo, by simp [s.len], fun i => match i with | 0 => [a] | i + 1 => fp i, fun j l hl => ?_, fun j k l m hjk hl hm => ?_⟩
  · cases j with
    | zero =>
      simp only [List.getElem?_cons_zero, Option.some.injEq] at hl
      subst hl
      refine ⟨.ref a, rfl, ⟨a, rfl, r, rfl⟩, by simp, fun b hb => ?_⟩
      obtain rfl : b = a := by simpa using hb
      exact ⟨s.fnone n, s.fresh n⟩
    | succ j =>
      obtain ⟨v, hv, r, nd, q⟩ := h1 j l (by simpa using hl)
      refine ⟨v, by simpa using hv, r.frame (Same.refl _) fun b hb => ?_, nd, q⟩
      exact upd_ne fun e => no j l (by simpa using hl) (e ▸ hb)
  · cases j with
    | zero =>
      cases k with
      | zero => exact absurd rfl hjk
      | succ k =>
        intro b hb hb2
        obtain rfl : b = a := by simpa using hb
        exact no k m (by simpa using hm) hb2
    | succ j =>
      cases k with
      | zero =>
        intro b hb hb2
        obtain rfl : b = a := by simpa using hb2
        exact no j l (by simpa using hl) hb
      | succ k => exact h2 j k l m (fun e => hjk (by rw [e])) (by simpa using hl) (by simpa using hm)
theorem SR.pop {x : Option LV} {y : Option V} (s : SR C F (x :: ρ) (y :: σ) H) : SR C F ρ σ H := by
  obtain ⟨fp, h1, h2⟩ := s.own
  exact ⟨s.le, s.f0, s.keep, s.fo, by have := s.len; simpa using this, fun i => fp (i + 1), fun j l hl => h1 (j + 1) l (by simpa using hl), fun j k l m hjk hl hm => h2 (j + 1) (k + 1) l m (by omega) (by simpa using hl) (by simpa using hm)⟩
/-- the value at hand goes to a slot -/
theorem SR.put {l : LV} {v : V} (s : SR C F (some l :: ρ) (some v :: σ) H) (i : Nat) : SR C F (ρ.set i (some l)) (σ.set i (some v)) H := by
  obtain ⟨fp, h1, h2⟩ := s.own
  have hlen : ρ.length = σ.length := by have := s.len; simpa using this
  refine ⟨s.le, s.f0, s.keep, s.fo, by simp [hlen], fun j => if j = i then fp 0 else fp (j + 1), fun j m hm => ?_, fun j k m m' hjk hm hm' => ?_⟩
  · rcases set_get hm with ⟨rfl, q, hi⟩ | ⟨q, hm⟩
    · cases q
      (try dsimp only); rw [if_pos rfl, List.getElem?_set_self (by omega)]
      exact h1 0 l rfl
    · (try dsimp only); rw [if_neg (Ne.symm q), List.getElem?_set_ne q]
      exact h1 (j + 1) m (by simpa using hm)
  · rcases set_get hm with ⟨rfl, q, hi⟩ | ⟨q, hm⟩
    · cases q
      rcases set_get hm' with ⟨e, _, _⟩ | ⟨q', hm'⟩
      · exact absurd e hjk
      · (try dsimp only); rw [if_pos rfl, if_neg (Ne.symm q')]
        exact h2 0 (k + 1) l m' (by omega) rfl (by simpa using hm')
    · (try dsimp only); rw [if_neg (Ne.symm q)]
      rcases set_get hm' with ⟨rfl, q', _⟩ | ⟨q', hm'⟩
      · cases q'
        (try dsimp only); rw [if_pos rfl]
        exact h2 (j + 1) 0 m l (by omega) (by simpa using hm) rfl
      · (try dsimp only); rw [if_neg (Ne.symm q')]
        exact h2 (j + 1) (k + 1) m m' (by omega) (by simpa using hm) (by simpa using hm')
theorem SR.setFro (s : SR C F ρ σ H) {p : PV} {v : V} (r : Rep C.K F p v) (i : Nat) : SR C F (ρ.set i (some (.fro p))) (σ.set i (some v)) H := (s.push r).put i
/-- what a name owns is frozen -/
theorem SR.freeze (s : SR C F ρ σ H) {i : Nat} {p : PV} (h : ρ[i]? = some (some (.own p))) : ∃ a F', σ[i]? = some (some (.ref a)) ∧ Same F F' ∧ SR C F' (ρ.set i (some (.fro p))) σ H ∧ Rep C.K F' p (.ref a) := by
  obtain ⟨fp, h1, h2⟩ := s.own
  obtain ⟨v, hv, ⟨a, rfl, oa, e⟩, nd, q⟩ := h1 i _ h
  obtain ⟨o, ho⟩ := oa.some
  obtain ⟨na, oA⟩ := q a (by rw [e]; simp)
  have sm : Same F (upd F a o) := same_updF na
  have rp := oa.repF ho na
  refine ⟨a, upd F a o, hv, sm, ⟨fun b u z => ?_, s.f0.trans sm, s.keep, fun b z => ?_, by simp [s.len], fun j => if j = i then [] else fp j, fun j l hl => ?_, fun j k l m hjk hl hm => ?_⟩, rp⟩
  · by_cases hb : b = a
    · subst hb; rw [upd_same] at z; rw [ho]; exact z
    · rw [upd_ne hb] at z; exact s.le b u z
  · by_cases hb : b = a
    · subst hb; exact .inr oA
    · rw [upd_ne hb] at z; exact s.fo b z
  · rcases set_get hl with ⟨rfl, z, hi⟩ | ⟨z, hl⟩
    · cases z
      (try dsimp only); rw [if_pos rfl]
      exact ⟨.ref a, hv, ⟨rp, rfl⟩, List.nodup_nil, fun b hb => nomatch hb⟩
    · (try dsimp only); rw [if_neg (Ne.symm z)]
      obtain ⟨v, hv, r, nd, q⟩ := h1 j l hl
      refine ⟨v, hv, r.frame sm fun _ _ => rfl, nd, fun b hb => ⟨?_, (q b hb).2⟩⟩
      rw [upd_ne fun w => h2 j i l _ (Ne.symm z) hl h b hb (by rw [e, w]; simp)]
      exact (q b hb).1
  · rcases set_get hl with ⟨rfl, z, hi⟩ | ⟨z, hl⟩
    · (try dsimp only); rw [if_pos rfl]; exact fun b hb => nomatch hb
    · (try dsimp only); rw [if_neg (Ne.symm z)]
      rcases set_get hm with ⟨rfl, z', hi⟩ | ⟨z', hm⟩
      · (try dsimp only); rw [if_pos rfl]; exact fun b _ hb => nomatch hb
      · (try dsimp only); rw [if_neg (Ne.symm z')]; exact h2 j k l m hjk hl hm
/-- what a name owns is written -/
theorem SR.write (s : SR C F ρ σ H) {i : Nat} {p p' : PV} {a : Addr} {o : HO} (h : ρ[i]? = some (some (.own p))) (hσ : σ[i]? = some (some (.ref a))) (r : OwnAt C.K F (upd H a o) a p') : SR C F (ρ.set i (some (.own p'))) σ (upd H a o) := by
  obtain ⟨fp, h1, h2⟩ := s.own
  obtain ⟨v, hv, ⟨a', rfl, oa, e⟩, nd, q⟩ := h1 i _ h
  rw [hσ] at hv; cases hv
  obtain ⟨na, oA⟩ := q a (by rw [e]; simp)
  refine ⟨fun b u z => ?_, s.f0, fun b u z hb => ?_, s.fo, by simp [s.len], fp, fun j l hl => ?_, fun j k l m hjk hl hm => ?_⟩
  · rw [upd_ne (ne_of_none z na)]; exact s.le b u z
  · have nb : b ≠ a := fun w => by
      subst w
      rcases oA with w | w
      · exact hb w
      · rw [z] at w; cases w
    rw [upd_ne nb]; exact s.keep b u z hb
  · rcases set_get hl with ⟨rfl, z, hi⟩ | ⟨z, hl⟩
    · cases z
      exact ⟨.ref a, hσ, ⟨a, rfl, r, e⟩, nd, q⟩
    · obtain ⟨v, hv, r', nd', q'⟩ := h1 j l hl
      refine ⟨v, hv, r'.frame (Same.refl _) fun b hb => ?_, nd', q'⟩
      exact upd_ne fun w => h2 j i l _ (Ne.symm z) hl h b hb (by rw [e, w]; simp)
  · rcases set_get hl with ⟨rfl, z, hi⟩ | ⟨z, hl⟩
    · rcases set_get hm with ⟨z', _, _⟩ | ⟨z', hm⟩
      · exact absurd z' hjk
      · exact h2 i k _ m hjk h hm
    · rcases set_get hm with ⟨rfl, z', hi⟩ | ⟨z', hm⟩
      · exact h2 j i l _ hjk hl h
      · exact h2 j k l m hjk hl hm
/-- the value at hand is frozen, or a new object of our own: frozen now -/
theorem SR.popFro {p : PV} {v : V} (s : SR C F (some (.fro p) :: ρ) (some v :: σ) H) : SR C F ρ σ H ∧ Rep C.K F p v := by
  refine ⟨s.pop, ?_⟩
  obtain ⟨v', hv, r⟩ := s.fro (i := 0) rfl
  cases hv
  exact r
theorem SR.popOwn {p : PV} {v : V} (s : SR C F (some (.own p) :: ρ) (some v :: σ) H) : ∃ F', Same F F' ∧ SR C F' ρ σ H ∧ Rep C.K F' p v := by
  obtain ⟨a, F', hv, sm, s', r⟩ := s.freeze (i := 0) rfl
  cases hv
  exact ⟨F', sm, s'.pop, r⟩
end
end Br
/-! BrB: a small language, and what its terms compute over plain values. -/
namespace Br
open PySem PySem.Spec PyProof.Rows L2

inductive Op where
  | add | sub | mul | fdiv | mod | pow | neg
  | eq | ne | lt | le | gt | ge | isN | isNN | isB (b : Bool) | isNB (b : Bool) | inn | nin
  | len | sum | abs | int1 | str1 | tuple1 | list1 | dict1 | sorted | allL | anyL | min2 | max2 | minL | maxL
  | idx | slc (lo hi : Bool) | rev | dget | isTy (ts : List String) | values | dmod
  | lcnt | tcnt | lidx | bits | sortedD | minD | maxD | isEx (kn cs : List Str) | tupleX
  deriving DecidableEq

/-- what a loop's or a comprehension's target is -/
inductive Tg where
  | one (i : Nat) | at (i : Nat) (k : Int) | tup (ts : List Tg)

mutual
inductive Ex where
  | var (i : Nat) | cst (c : PV) | app (o : Op) (as : List Arg) | mth (o : Op) (a : Arg) (as : List Arg) | tup (es : List Ex) | lst (es : List Ex) | dnew
  | call (j : Nat) (as : List Arg) | and (a b : Ex) | or (a b : Ex) | not (a : Ex) | ite (c : Tst) (a b : Ex)
  | chain (o1 o2 : Op) (a b c : Ex) | sl2 (a : Arg) (lo hi : Ex) | comp (s : Src) (t : Tg) (vs : List Nat) (c : List Tst) (e : Ex)
  | popE (i : Nat) (e : Ex) | popL (i : Nat) | dispV (i j : Nat) | callT (j : Nat) (as : List Arg) (k : Nat) (cs bs : List Arg) | xtup (es : List Ex)
/-- an argument: a name's own object, or a value -/
inductive Arg where
  | ref (i : Nat) | val (e : Ex)
inductive Tst where
  | and (a b : Tst) | or (a b : Tst) | not (a : Tst) | e (x : Ex)
inductive Src where
  | seq (e : Ex) | lock (i : Nat) (it : Bool) | rng1 (a : Ex) | rng2 (a b : Ex) | enum (e : Ex) | zip (a b : Ex) | rev (e : Ex)
end

inductive St where
  | set (i : Nat) (e : Ex) | unp (t : Tg) (e : Ex) | par (is : List Nat) (es : List Ex)
  | setIx (i : Nat) (k e : Ex) | app (i : Nat) (e : Ex) | ext (i : Nat) (e : Ex) | popA (i : Nat) (e : Ex) | insA (i : Nat) (k e : Ex)
  | ex (e : Ex) | ret (e : Ex) | retV (i : Nat) | retN
  | ite (c : Tst) (a b : List St) | whl (c : Tst) (b : List St) | for (s : Src) (t : Tg) (b : List St)
  | brk | cont | pass | raise (c : Str) | tryx (b : List St) (x : Str) (i : Option Nat) (kn : List Str) (s : List St)

/-! ### outcomes -/
inductive ER (α : Type) where
  | ok (a : α) (ρ : Env) | ex (c : Str) (ρ : Env) | st
inductive CR where
  | ok (r : LV) (as : List LV) | ex (c : Str) (as : List LV) | st
inductive SO where
  | nx (ρ : Env) | rt (l : LV) (ρ : Env) | bk (ρ : Env) | ct (ρ : Env) | ex (c : Str) (ρ : Env) | st
/-- an argument: a value, or a name whose object is handed on -/
inductive AV where
  | val (p : PV) | ref (i : Nat)

def ER.bind {α β : Type} (r : ER α) (f : α → Env → ER β) : ER β := match r with
  | .ok a ρ => f a ρ
  | .ex c ρ => .ex c ρ
  | .st => .st
@[simp] theorem ER.bind_ok {α β : Type} (a : α) (ρ : Env) (f : α → Env → ER β) : (ER.ok a ρ).bind f = f a ρ := rfl
@[simp] theorem ER.bind_ex {α β : Type} (c : Str) (ρ : Env) (f : α → Env → ER β) : (ER.ex c ρ : ER α).bind f = .ex c ρ := rfl
@[simp] theorem ER.bind_st {α β : Type} (f : α → Env → ER β) : (ER.st : ER α).bind f = .st := rfl
def ER.of {α : Type} (o : Option α) (ρ : Env) : ER α := match o with
  | some a => .ok a ρ
  | none => .st
@[simp] theorem ER.of_some {α : Type} (a : α) (ρ : Env) : ER.of (some a) ρ = .ok a ρ := rfl
@[simp] theorem ER.of_none {α : Type} (ρ : Env) : (ER.of none ρ : ER α) = .st := rfl

def LV.pv : LV → Option PV
  | .fro p => some p
  | .own p => some p
  | .ins _ _ _ => none
def AV.pv (ρ : Env) : AV → Option PV
  | .val p => some p
  | .ref i => match ρ[i]? with
    | some (some l) => l.pv
    | _ => none
def AV.pvs (ρ : Env) : List AV → Option (List PV)
  | [] => some []
  | a :: as => match a.pv ρ, AV.pvs ρ as with
    | some p, some ps => some (p :: ps)
    | _, _ => none
def AV.lv (ρ : Env) : AV → Option LV
  | .val p => some (.fro p)
  | .ref i => match ρ[i]? with
    | some (some l) => some l
    | _ => none
def AV.lvs (ρ : Env) : List AV → Option (List LV)
  | [] => some []
  | a :: as => match a.lv ρ, AV.lvs ρ as with
    | some p, some ps => some (p :: ps)
    | _, _ => none
def AV.refs : List AV → List Nat
  | [] => []
  | .val _ :: as => AV.refs as
  | .ref i :: as => i :: AV.refs as
/-- the handed-on names' objects behind a call -/
def AV.back (ρ : Env) : List AV → Env → Env
  | .ref i :: as, some l :: ms => AV.back (ρ.set i (some l)) as ms
  | _ :: as, _ :: ms => AV.back ρ as ms
  | _, _ => ρ
def LV.isFro : LV → Bool
  | .fro _ => true
  | _ => false
/-- what was handed on, behind the call -/
def maskL : List LV → List LV → Env
  | l :: ls, l' :: ls' => (if l.isFro = true then none else some l') :: maskL ls ls'
  | _, _ => []

/-! ### data as the model compares it -/
mutual
def PV.toD : PV → PyData
  | .bl b => .bool b
  | .int i => .int i
  | .str x => .str x
  | .tup l => .tuple (PV.toDs l)
  | .xt l => .tuple (PV.toDs l)
  | .lst l => .list (PV.toDs l)
  | _ => .none
def PV.toDs : List PV → List PyData
  | [] => []
  | p :: l => p.toD :: PV.toDs l
end
/-- data of depth below n -/
def PV.isD : Nat → PV → Bool
  | _, .non => true
  | _, .bl _ => true
  | _, .int _ => true
  | _, .str x => PyData.strOk x
  | n + 1, .tup l => l.all (PV.isD n)
  | n + 1, .xt l => l.all (PV.isD n)
  | n + 1, .lst l => l.all (PV.isD n)
  | _, _ => false
/-- .. all of whose tuples are any tuples -/
def PV.isT : Nat → PV → Bool
  | _, .non => true
  | _, .bl _ => true
  | _, .int _ => true
  | _, .str x => PyData.strOk x
  | n + 1, .tup l => l.all (PV.isT n)
  | n + 1, .lst l => l.all (PV.isT n)
  | _, _ => false
def eqP (a b : PV) : Bool := PyData.eqv a.toD b.toD
mutual
/-- < of ints, texts, tuples; none where it is not known -/
def ltP : PV → PV → Option Bool
  | .int a, .int b => some (decide (a < b))
  | .tup l, .tup m => ltPs l m
  | _, _ => none
def ltPs : List PV → List PV → Option Bool
  | [], [] => some false
  | [], _ :: _ => some true
  | _ :: _, [] => some false
  | x :: xs, y :: ys => match ltPs xs ys with
    | some r => if eqP x y = true then some r else ltP x y
    | none => none
end
def LIM : Nat := 1000000
def intsOf : List PV → Option (List Int)
  | [] => some []
  | .int i :: l => (intsOf l).map (i :: ·)
  | _ => none
def blsOf : List PV → Option (List Bool)
  | [] => some []
  | .bl i :: l => (blsOf l).map (i :: ·)
  | _ => none
@[simp] theorem intsOf_map (ns : List Int) : intsOf (ns.map PV.int) = some ns := by
  induction ns with
  | nil => rfl
  | cons n ns ih => simp [intsOf, ih]
@[simp] theorem blsOf_map (ns : List Bool) : blsOf (ns.map PV.bl) = some ns := by
  induction ns with
  | nil => rfl
  | cons n ns ih => simp [blsOf, ih]
def mulOk (i j : Int) : Prop := i.natAbs < 2 ^ 64 ∨ j.natAbs < 2 ^ 64 ∨ i.natAbs.log2 + j.natAbs.log2 < 1000000
instance (i j : Int) : Decidable (mulOk i j) := by unfold mulOk; infer_instance
def tyName : PV → Option String
  | .non => some "NoneType"
  | .bl _ => some "bool"
  | .int _ => some "int"
  | .str _ => some "str"
  | .tup _ => some "tuple"
  | .xt _ => some "tuple"
  | .lst _ => some "list"
  | .dK _ _ => some "dict"
  | .dT _ _ => some "dict"
  | _ => none
def isTyP (c : String) (p : PV) : Option Bool := match tyName p with
  | some t => kitB t c
  | none => none
def isTys : List String → PV → Option Bool
  | [], _ => some false
  | t :: ts, p => match isTyP t p with
    | some true => some true
    | some false => isTys ts p
    | none => none
def cutP (l : List PV) (lo hi : Option Int) : List PV := (l.drop (HT.sIx l.length 0 lo)).take (HT.sIx l.length l.length hi - HT.sIx l.length 0 lo)
def insI (x : Int) : List Int → List Int
  | [] => [x]
  | y :: ys => if x ≤ y then x :: y :: ys else y :: insI x ys
def sortI : List Int → List Int
  | [] => []
  | x :: xs => insI x (sortI xs)
def keyP : PV → Option Key
  | .int i => some (.inl i)
  | .str x => some (.inr x)
  | _ => none
def findK (k : Key) : List Key → List PV → Option PV
  | c :: cs, v :: vs => if k = c then some v else findK k cs vs
  | _, _ => none
def hasK (k : Key) (ks : List Key) : Bool := ks.any fun c => decide (c = k)
def putKs (k : Key) : List Key → List Key
  | [] => [k]
  | c :: cs => if k = c then c :: cs else c :: putKs k cs
def putVs (k : Key) (p : PV) : List Key → List PV → List PV
  | c :: cs, v :: vs => if k = c then p :: vs else v :: putVs k p cs vs
  | _, _ => [p]

def addP : List PV → Option PV
  | [.int a, .int b] => some (.int (a + b))
  | [.str a, .str b] => if a.length + b.length ≤ LIM then some (.str (a ++ b)) else none
  | [.lst a, .lst b] => if a.length + b.length ≤ LIM then some (.lst (a ++ b)) else none
  | [.tup a, .tup b] => if a.length + b.length ≤ LIM then some (.tup (a ++ b)) else none
  | _ => none
def subP : List PV → Option PV
  | [.int a, .int b] => some (.int (a - b))
  | _ => none
def mulP : List PV → Option PV
  | [.int a, .int b] => if mulOk a b then some (.int (a * b)) else none
  | [.lst l, .int b] => if 0 ≤ b ∧ b ≤ LIM ∧ (l.length = 1 ∨ l.length * b.toNat ≤ LIM) then some (.lst (List.replicate b.toNat l).flatten) else none
  | [.tup l, .int b] => if 1 ≤ b ∧ b ≤ 1000 ∧ l ≠ [] ∧ l.length ≤ 1000 then some (.tup (List.replicate b.toNat l).flatten) else none
  | _ => none
def fdivP : List PV → Option PV
  | [.int a, .int b] => if 0 < b ∧ b.natAbs.log2 < 9000 then some (.int (a / b)) else if b < 0 ∧ b.natAbs.log2 < 9000 then some (.int (a.fdiv b)) else none
  | _ => none
def modP : List PV → Option PV
  | [.int a, .int b] => if 0 < b then some (.int (a % b)) else none
  | _ => none
def powP : List PV → Option PV
  | [.int a, .int b] => if 0 ≤ b ∧ b ≤ 1000000 ∧ a.natAbs < 2 ^ 64 then some (.int (a ^ b.toNat)) else none
  | _ => none
def negP : List PV → Option PV
  | [.int a] => some (.int (-a))
  | _ => none
def eqOP : List PV → Option PV
  | [a, b] => if a.isD 60 = true ∧ b.isD 60 = true then some (.bl (eqP a b)) else none
  | _ => none
def neOP : List PV → Option PV
  | [a, b] => if a.isD 60 = true ∧ b.isD 60 = true then some (.bl (!eqP a b)) else none
  | _ => none
def ltOP : List PV → Option PV
  | [.int a, .int b] => some (.bl (decide (a < b)))
  | [.tup a, .tup b] => if (PV.tup a).isD 60 = true ∧ (PV.tup b).isD 60 = true then (ltPs a b).map .bl else none
  | _ => none
def leOP : List PV → Option PV
  | [.int a, .int b] => some (.bl (decide (a ≤ b)))
  | _ => none
def gtOP : List PV → Option PV
  | [.int a, .int b] => some (.bl (decide (b < a)))
  | _ => none
def geOP : List PV → Option PV
  | [.int a, .int b] => some (.bl (decide (b ≤ a)))
  | _ => none
def PV.isNon : PV → Bool
  | .non => true
  | _ => false
def isNP : List PV → Option PV
  | [p] => some (.bl p.isNon)
  | _ => none
def isNNP : List PV → Option PV
  | [p] => some (.bl (!p.isNon))
  | _ => none
def isBP (b : Bool) : List PV → Option PV
  | [.bl c] => some (.bl (c == b))
  | _ => none
def isNBP (b : Bool) : List PV → Option PV
  | [.bl c] => some (.bl (!(c == b)))
  | _ => none
def inP : List PV → Option PV
  | [a, .lst l] => if a.isD 60 = true ∧ (PV.lst l).isD 60 = true then some (.bl (l.any fun z => eqP z a)) else none
  | [a, .tup l] => if a.isD 60 = true ∧ (PV.tup l).isD 60 = true then some (.bl (l.any fun z => eqP z a)) else none
  | [.int i, .dK ks _] => some (.bl (hasK (Sum.inl i) ks))
  | [.str i, .dK ks _] => some (.bl (hasK (Sum.inr i) ks))
  | _ => none
def ninP : List PV → Option PV
  | [a, .lst l] => if a.isD 60 = true ∧ (PV.lst l).isD 60 = true then some (.bl (!l.any fun z => eqP z a)) else none
  | [a, .tup l] => if a.isD 60 = true ∧ (PV.tup l).isD 60 = true then some (.bl (!l.any fun z => eqP z a)) else none
  | [.int i, .dK ks _] => some (.bl (!hasK (Sum.inl i) ks))
  | [.str i, .dK ks _] => some (.bl (!hasK (Sum.inr i) ks))
  | _ => none
def lenP : List PV → Option PV
  | [.lst l] => some (.int l.length)
  | [.tup l] => some (.int l.length)
  | [.dK ks _] => some (.int ks.length)
  | [.str x] => if x.length ≤ LIM then some (.int x.length) else none
  | _ => none
def sumP : List PV → Option PV
  | [.lst l] => (intsOf l).map fun ns => .int ns.sum
  | [.tup l] => (intsOf l).map fun ns => .int ns.sum
  | _ => none
def absP : List PV → Option PV
  | [.int a] => some (.int (if a < 0 then -a else a))
  | _ => none
def int1P : List PV → Option PV
  | [.int a] => some (.int a)
  | [.bl b] => some (.int (if b = true then 1 else 0))
  | _ => none
def str1P : List PV → Option PV
  | [.int a] => if a.natAbs.log2 < 1920 then some (.str (toString a)) else none
  | _ => none
def tuple1P : List PV → Option PV
  | [.lst l] => some (.tup l)
  | [.tup l] => some (.tup l)
  | _ => none
def list1P : List PV → Option PV
  | [.lst l] => some (.lst l)
  | [.tup l] => some (.lst l)
  | _ => none
def intKeys : List Key → Option (List Int)
  | [] => some []
  | .inl i :: l => (intKeys l).map (i :: ·)
  | _ => none
def sortedP : List PV → Option PV
  | [.lst l] => (intsOf l).map fun ns => .lst ((sortI ns).map .int)
  | [.dK ks _] => if ks.length < 64 then (intKeys ks).map fun ns => .lst ((sortI ns).map .int) else none
  | _ => none
def allLP : List PV → Option PV
  | [.lst l] => (blsOf l).map fun ns => .bl (ns.all id)
  | _ => none
def anyLP : List PV → Option PV
  | [.lst l] => (blsOf l).map fun ns => .bl (ns.any id)
  | _ => none
def min2P : List PV → Option PV
  | [.int a, .int b] => some (.int (if b < a then b else a))
  | _ => none
def max2P : List PV → Option PV
  | [.int a, .int b] => some (.int (if b > a then b else a))
  | _ => none
def minI : List Int → Option Int
  | [] => none
  | n :: ns => some (ns.foldl (fun a b => if b < a then b else a) n)
def maxI : List Int → Option Int
  | [] => none
  | n :: ns => some (ns.foldl (fun a b => if b > a then b else a) n)
def minLP : List PV → Option PV
  | [.lst l] => (intsOf l).bind fun ns => (minI ns).map .int
  | _ => none
def maxLP : List PV → Option PV
  | [.lst l] => (intsOf l).bind fun ns => (maxI ns).map .int
  | _ => none
def ltD (a b : PV) : Bool := PySem.W.dataLt a.toD b.toD
def alikeP (a b : PV) : Bool := PySem.W.alike a.toD b.toD
def PV.tup1 : PV → Bool
  | .tup (_ :: _) => true
  | _ => false
def PV.noTup : PV → Bool
  | .tup _ => false
  | .xt _ => false
  | .non => false
  | _ => true
def PV.noNon : PV → Bool
  | .non => false
  | _ => true
def sortOk (l : List PV) : Bool := (PV.lst l).isD 60 && (l.all fun a => l.all fun b => alikeP a b) && (l.all PV.tup1 || l.all PV.noTup) && decide (l.length ≤ LIM)
def minOk (l : List PV) : Bool := (PV.lst l).isT 60 && (l.all fun a => l.all fun b => alikeP a b) && l.all PV.noNon
def leD (a b : PV) : Bool := !ltD b a
def sortD (l : List PV) : List PV := l.mergeSort leD
def sortX (l : List PV) : Option PV := match l with
  | [x] => some (.lst [x])
  | l => if sortOk l = true then some (.lst (sortD l)) else none
def sortedDP (ps : List PV) : Option PV := match sortedP ps with
  | some r => some r
  | none => match ps with
    | [.lst l] => sortX l
    | _ => none
def minDP (ps : List PV) : Option PV := match minLP ps with
  | some r => some r
  | none => match ps with
    | [.lst (x :: l)] => if minOk (x :: l) = true then some (l.foldl (fun a y => if ltD y a = true then y else a) x) else none
    | [.tup (x :: l)] => if minOk (x :: l) = true then some (l.foldl (fun a y => if ltD y a = true then y else a) x) else none
    | _ => none
def maxDP (ps : List PV) : Option PV := match maxLP ps with
  | some r => some r
  | none => match ps with
    | [.lst (x :: l)] => if minOk (x :: l) = true then some (l.foldl (fun a y => if ltD a y = true then y else a) x) else none
    | [.tup (x :: l)] => if minOk (x :: l) = true then some (l.foldl (fun a y => if ltD a y = true then y else a) x) else none
    | _ => none
def idxP : List PV → Option PV
  | [.lst l, .int i] => atI l i
  | [.tup l, .int i] => atI l i
  | [.dK ks vs, .int k] => findK (Sum.inl k) ks vs
  | [.dK ks vs, .str k] => findK (Sum.inr k) ks vs
  | _ => none
def slcPart (b : Bool) : List PV → Option (Option Int × List PV)
  | l => if b = true then match l with
      | .int i :: r => some (some i, r)
      | _ => none
    else some (none, l)
def slcP (lo hi : Bool) : List PV → Option PV
  | x :: as => match slcPart lo as with
    | some (a, as') => match slcPart hi as' with
      | some (b, []) => match x with
        | .lst l => some (.lst (cutP l a b))
        | .tup l => some (.tup (cutP l a b))
        | _ => none
      | _ => none
    | none => none
  | _ => none
def dgetP : List PV → Option PV
  | [.dK ks vs, .int k, .int d] => some ((findK (Sum.inl k) ks vs).getD (.int d))
  | [.dK ks vs, .str k, .int d] => some ((findK (Sum.inr k) ks vs).getD (.int d))
  | _ => none
def dmodP : List PV → Option PV
  | [.int a, .int b] => if 0 < b ∧ b.natAbs.log2 < 9000 then some (.tup [.int (a / b), .int (a % b)]) else none
  | _ => none
def cntP (l : List PV) (a : PV) : Option PV := if (PV.lst l).isD 60 = true ∧ a.isD 60 = true then some (.int (l.countP fun z => eqP z a : Nat)) else none
def lcntP : List PV → Option PV
  | [.lst l, a] => cntP l a
  | _ => none
def tcntP : List PV → Option PV
  | [.tup l, a] => cntP l a
  | _ => none
def lidxP : List PV → Option PV
  | [.lst l, a] => if (PV.lst l).isD 60 = true ∧ a.isD 60 = true ∧ l.length ≤ LIM then (l.findIdx? fun z => eqP z a).map fun j => .int (j : Nat) else none
  | _ => none
def bitsP : List PV → Option PV
  | [.int i] => some (.int (Builtin.Int.intBits i : Nat))
  | _ => none
def revP : List PV → Option PV
  | [.lst l] => some (.lst l.reverse)
  | _ => none
def pairsK : List PV → Option (List (Key × PV))
  | [] => some []
  | .tup [k, v] :: l => match keyP k, pairsK l with
    | some k, some r => some ((k, v) :: r)
    | _, _ => none
  | _ => none
def dmk : List (Key × PV) → List Key → List PV → PV
  | [], ks, vs => .dK ks vs
  | q :: r, ks, vs => dmk r (putKs q.1 ks) (putVs q.1 q.2 ks vs)
def tupleXP : List PV → Option PV
  | [.lst l] => some (.xt l)
  | [.xt l] => some (.xt l)
  | _ => none
def dict1P : List PV → Option PV
  | [.dK _ _] => none
  | [.xt l] => if l.length ≤ LIM then (pairsK l).map fun r => dmk r [] [] else none
  | [.lst l] => if l.length ≤ LIM then (pairsK l).map fun r => dmk r [] [] else none
  | _ => none
def isTyOP (ts : List String) : List PV → Option PV
  | [p] => (isTys ts p).map .bl
  | _ => none
/-- whether an instance of the refusal c is one of x (all refusals stand straight under one class) -/
def subX (c x : Str) : Bool := decide (x = "BrimError") || (decide (x = "ValueError") || decide (x = c))
def isExP (kn cs : List Str) (ps : List PV) : Option PV := match ps with
  | [.exc c] => if c ∈ kn ∧ ∀ x ∈ cs, x ∈ ("BrimError" : Str) :: "ValueError" :: kn then some (.bl (cs.any (subX c))) else none
  | [.non] => if ∀ x ∈ cs, x ∈ ("BrimError" : Str) :: "ValueError" :: kn then some (.bl false) else none
  | _ => none
def opSem (o : Op) (ps : List PV) : Option PV := match o with
  | .add => addP ps | .sub => subP ps | .mul => mulP ps | .fdiv => fdivP ps | .mod => modP ps | .pow => powP ps | .neg => negP ps
  | .eq => eqOP ps | .ne => neOP ps | .lt => ltOP ps | .le => leOP ps | .gt => gtOP ps | .ge => geOP ps
  | .isN => isNP ps | .isNN => isNNP ps | .isB b => isBP b ps | .isNB b => isNBP b ps | .inn => inP ps | .nin => ninP ps
  | .len => lenP ps | .sum => sumP ps | .abs => absP ps | .int1 => int1P ps | .str1 => str1P ps | .tuple1 => tuple1P ps | .list1 => list1P ps
  | .dict1 => dict1P ps | .sorted => sortedP ps | .allL => allLP ps | .anyL => anyLP ps | .min2 => min2P ps | .max2 => max2P ps | .minL => minLP ps | .maxL => maxLP ps
  | .idx => idxP ps | .slc lo hi => slcP lo hi ps | .rev => revP ps | .dget => dgetP ps | .isTy ts => isTyOP ts ps | .values => none | .dmod => dmodP ps
  | .lcnt => lcntP ps | .tcnt => tcntP ps | .lidx => lidxP ps | .bits => bitsP ps | .sortedD => sortedDP ps | .minD => minDP ps | .maxD => maxDP ps | .isEx kn cs => isExP kn cs ps | .tupleX => tupleXP ps
/-- these see whether a tuple's object is known -/
def Op.raw : Op → Bool
  | .dict1 => true | .tupleX => true
  | _ => false
def opX (o : Op) (ps : List PV) : Option PV := opSem o (if o.raw = true then ps else ps.map PV.dn)
/-- whether a list or dict that the operation tells is a new one -/
def Op.new : Op → Bool
  | .add => true | .mul => true | .list1 => true | .sorted => true | .slc _ _ => true | .rev => true | .dict1 => true | .values => true | .sortedD => true
  | _ => false

/-- a new object is our own -/
def ownV (o : Op) (p : PV) : LV := if o.new = true then match p with
  | .lst l => .own (.lst l)
  | .dK ks l => .own (.dK ks l)
  | p => .fro p else .fro p

/-- whose method it is -/
def recvOk : Op → Option PV → Bool
  | .dget, some (.dK _ _) => true
  | .values, some (.dK _ _) => true
  | .lcnt, some (.lst _) => true
  | .lidx, some (.lst _) => true
  | .tcnt, some (.tup _) => true
  | _, _ => false

/-- x[k] = p, x our own -/
def setIxP (l : LV) (k p : PV) : Option LV := match l, k with
  | .own (.lst l), .int i => (ixN l.length i).map fun j => .own (.lst (l.set j p))
  | .own (.dK ks vs), k => (keyP k).bind fun k => if ks.length < LIM then some (.own (.dK (putKs k ks) (putVs k p ks vs))) else none
  | _, _ => none
/-- the part of a state that a slot names -/
def at' (ρ : Env) (i : Nat) : Option LV := match ρ[i]? with
  | some (some l) => some l
  | _ => none
/-! ### targets -/
mutual
def Tg.bind : Tg → PV → Env → Option Env
  | .one i, p, ρ => some (ρ.set i (some (.fro p)))
  | .at i k, p, ρ => match (at' ρ i).bind fun l => setIxP l (.int k) p with
    | some l => some (ρ.set i (some l))
    | none => none
  | .tup ts, p, ρ => match p with
    | .tup l => if l.length = ts.length then Tg.binds ts l ρ else none
    | .lst l => if l.length = ts.length then Tg.binds ts l ρ else none
    | .xt l => if l.length = ts.length then Tg.binds ts l ρ else none
    | _ => none
def Tg.binds : List Tg → List PV → Env → Option Env
  | [], [], ρ => some ρ
  | t :: ts, p :: ps, ρ => match t.bind p ρ with
    | some ρ' => Tg.binds ts ps ρ'
    | none => none
  | _, _, _ => none
end
/-- slots forgotten -/
def wipeE (ρ : Env) : List Nat → Env
  | [] => ρ
  | v :: vs => (wipeE ρ vs).set v none
/-- slots of the first, as far as they are frozen, put back -/
def backE (ρ ρ' : Env) : List Nat → Env
  | [] => ρ'
  | v :: vs => match ρ[v]? with
    | some (some (.fro p)) => (backE ρ ρ' vs).set v (some (.fro p))
    | _ => (backE ρ ρ' vs).set v none

/-! ### expressions -/
def compL (f : PV → Env → ER (Option PV)) : List PV → Env → ER (List PV)
  | [], ρ => .ok [] ρ
  | x :: xs, ρ => match f x ρ with
    | .ok (some y) ρ1 => match compL f xs ρ1 with
      | .ok ys ρ2 => .ok (y :: ys) ρ2
      | _ => .st
    | .ok none ρ1 => compL f xs ρ1
    | _ => .st
def rngP (a b : Int) : List PV := (List.range (b - a).toNat).map fun k => .int (a + (k : Nat))
def rngOk (a : Int) : Prop := -(2 ^ 62) ≤ a ∧ a < 2 ^ 62
instance (a : Int) : Decidable (rngOk a) := by unfold rngOk; infer_instance
/-- what is told of a call -/
def callE (g : List LV → CR) (avs : List AV) (ρ : Env) : ER LV := match AV.lvs ρ avs with
  | some ls => if (AV.refs avs).Nodup then match g ls with
      | .ok r ls' => if ls'.length = ls.length then .ok r (AV.back ρ avs (maskL ls ls')) else .st
      | .ex c ls' => if ls'.length = ls.length then .ex c (AV.back ρ avs (maskL ls ls')) else .st
      | .st => .st
    else .st
  | none => .st
/-- one slot more in front -/
def AV.sh : AV → AV
  | .val p => .val p
  | .ref i => .ref (i + 1)
/-- a call with a temporary of our own in front of the slots, then dropped -/
def dropT (r : ER LV) : ER LV := match r with
  | .ok r ρ => .ok r ρ.tail
  | .ex c ρ => .ex c ρ.tail
  | .st => .st
def callT (g : List LV → CR) (avs : List AV) (l : LV) (bvs : List AV) (ρ : Env) : ER LV := dropT (callE g (avs.map AV.sh ++ .ref 0 :: bvs.map AV.sh) (some l :: ρ))
def froE (r : ER LV) : ER PV := r.bind fun l ρ => ER.of l.pv ρ
def enumF : Nat → List PV → List PV
  | _, [] => []
  | k, p :: l => .tup [.int (k : Nat), p] :: enumF (k + 1) l
def enumP (l : List PV) : List PV := enumF 0 l
def zipP : List PV → List PV → List PV
  | p :: l, q :: m => .tup [p, q] :: zipP l m
  | _, _ => []
def seqOf : PV → Option (List PV)
  | .lst l => some l
  | .tup l => some l
  | .xt l => some l
  | _ => none
theorem seqOf_dn (p : PV) : seqOf p = seqOf p.dn := by cases p <;> rfl

def ownL (ρ : Env) (i : Nat) : Bool := match at' ρ i with
  | some (.own (.lst _)) => true
  | _ => false
/-- {x: y} -/
def dispP (ρ : Env) (i j : Nat) : Option PV := match at' ρ i, at' ρ j with
  | some (.fro k), some (.fro q) => (keyP k).map fun key => .dK [key] [q]
  | _, _ => none
/-- x.pop(j): what it tells, and the list behind it -/
def popP (l : Option LV) (p : PV) : Option (PV × LV) := match l, p with
  | some (.own (.lst l)), .int j => if 0 ≤ j ∧ j < LIM then (l[j.toNat]?).map fun x => (x, .own (.lst (l.eraseIdx j.toNat))) else none
  | _, _ => none
def poplP (l : Option LV) : Option (PV × LV) := match l with
  | some (.own (.lst l)) => (l[l.length - 1]?).map fun x => (x, .own (.lst l.dropLast))
  | _ => none
/-- the list of slot i is so now -/
def putE (i : Nat) (o : Option (PV × LV)) (ρ : Env) : ER PV := match o with
  | some (x, l) => .ok x (ρ.set i (some l))
  | none => .st
section
variable (Φ : Nat → List LV → CR)
mutual
def evE : Ex → Env → ER PV
  | .var i, ρ => match ρ[i]? with
    | some (some (.fro p)) => .ok p ρ
    | some (some (.own p)) => .ok p (ρ.set i (some (.fro p)))
    | _ => .st
  | .cst c, ρ => .ok c ρ
  | .app o as, ρ => (evAs as ρ).bind fun avs ρ1 => ER.of ((AV.pvs ρ1 avs).bind (opX o)) ρ1
  | .mth o a as, ρ => (evA a ρ).bind fun av ρ1 => if recvOk o (av.pv ρ1) = true then (evAs as ρ1).bind fun avs ρ2 => ER.of ((AV.pvs ρ2 (av :: avs)).bind (opSem o)) ρ2 else .st
  | .tup es, ρ => (evEs es ρ).bind fun ps ρ1 => if ps.length ≤ LIM then .ok (.tup ps) ρ1 else .st
  | .lst es, ρ => (evEs es ρ).bind fun ps ρ1 => if ps.length ≤ LIM then .ok (.lst ps) ρ1 else .st
  | .dnew, ρ => .ok (.dK [] []) ρ
  | .call j as, ρ => (evAs as ρ).bind fun avs ρ1 => froE (callE (Φ j) avs ρ1)
  | .and a b, ρ => (evE a ρ).bind fun p ρ1 => match p with
    | .bl true => evE b ρ1
    | .bl false => .ok (.bl false) ρ1
    | _ => .st
  | .or a b, ρ => (evE a ρ).bind fun p ρ1 => match p with
    | .bl false => evE b ρ1
    | .bl true => .ok (.bl true) ρ1
    | _ => .st
  | .not a, ρ => (evE a ρ).bind fun p ρ1 => match p with
    | .bl b => .ok (.bl (!b)) ρ1
    | _ => .st
  | .ite c a b, ρ => (evT c ρ).bind fun t ρ1 => if t = true then evE a ρ1 else evE b ρ1
  | .chain o1 o2 a b c, ρ => (evE a ρ).bind fun p ρ1 => (evE b ρ1).bind fun q ρ2 => match opSem o1 [p, q] with
    | some (.bl true) => (evE c ρ2).bind fun r ρ3 => ER.of (opSem o2 [q, r]) ρ3
    | some (.bl false) => .ok (.bl false) ρ2
    | _ => .st
  | .sl2 a lo hi, ρ => (evA a ρ).bind fun av ρ1 => (evE lo ρ1).bind fun p ρ2 => match p with
    | .int i => (evE hi ρ2).bind fun q ρ3 => match q with
      | .int j => ER.of ((av.pv ρ3).bind fun x => slcP true true [x.dn, .int i, .int j]) ρ3
      | _ => .st
    | _ => .st
  | .comp s t vs c e, ρ => (evSrc s ρ).bind fun xs ρ1 =>
      if xs.length ≤ LIM then (compL (fun x ρ2 => match t.bind x ρ2 with
        | some ρ3 => (evTs c ρ3).bind fun b ρ4 => if b = true then (evE e ρ4).bind fun y ρ5 => .ok (some y) (wipeE ρ5 vs) else .ok none (wipeE ρ4 vs)
        | none => .st) xs (wipeE ρ1 vs)).bind fun ys ρ6 => .ok (.lst ys) (backE ρ1 ρ6 vs) else .st
  | .popE i e, ρ => if ownL ρ i = true then (evE e ρ).bind fun p ρ1 => putE i (popP (at' ρ1 i) p) ρ1 else .st
  | .popL i, ρ => putE i (poplP (at' ρ i)) ρ
  | .dispV i j, ρ => ER.of (dispP ρ i j) ρ
  | .callT j as k cs bs, ρ => (evAs as ρ).bind fun avs ρ1 => (evAs cs ρ1).bind fun cvs ρ2 => (callE (Φ k) cvs ρ2).bind fun l ρ3 => (evAs bs ρ3).bind fun bvs ρ4 => froE (callT (Φ j) avs l bvs ρ4)
  | .xtup es, ρ => (evEs es ρ).bind fun ps ρ1 => if ps.length ≤ LIM then .ok (.xt ps) ρ1 else .st
def evA : Arg → Env → ER AV
  | .ref i, ρ => match ρ[i]? with
    | some (some (.fro p)) => .ok (.val p) ρ
    | some (some _) => .ok (.ref i) ρ
    | _ => .st
  | .val e, ρ => (evE e ρ).bind fun p ρ1 => .ok (.val p) ρ1
def evAs : List Arg → Env → ER (List AV)
  | [], ρ => .ok [] ρ
  | a :: as, ρ => (evA a ρ).bind fun av ρ1 => (evAs as ρ1).bind fun avs ρ2 => .ok (av :: avs) ρ2
def evEs : List Ex → Env → ER (List PV)
  | [], ρ => .ok [] ρ
  | e :: es, ρ => (evE e ρ).bind fun p ρ1 => (evEs es ρ1).bind fun ps ρ2 => .ok (p :: ps) ρ2
def evT : Tst → Env → ER Bool
  | .and a b, ρ => (evT a ρ).bind fun t ρ1 => if t = true then evT b ρ1 else .ok false ρ1
  | .or a b, ρ => (evT a ρ).bind fun t ρ1 => if t = true then .ok true ρ1 else evT b ρ1
  | .not a, ρ => (evT a ρ).bind fun t ρ1 => .ok (!t) ρ1
  | .e x, ρ => (evE x ρ).bind fun p ρ1 => match p with
    | .bl b => .ok b ρ1
    | _ => .st
def evTs : List Tst → Env → ER Bool
  | [], ρ => .ok true ρ
  | [c], ρ => evT c ρ
  | _, _ => .st
def evSrc : Src → Env → ER (List PV)
  | .seq e, ρ => (evE e ρ).bind fun p ρ1 => ER.of (seqOf p) ρ1
  | .lock _ _, _ => .st
  | .rng1 a, ρ => (evE a ρ).bind fun p ρ1 => match p with
    | .int j => if rngOk j then .ok (rngP 0 j) ρ1 else .st
    | _ => .st
  | .rng2 a b, ρ => (evE a ρ).bind fun p ρ1 => (evE b ρ1).bind fun q ρ2 => match p, q with
    | .int i, .int j => if rngOk i ∧ rngOk j then .ok (rngP i j) ρ2 else .st
    | _, _ => .st
  | .enum e, ρ => (evE e ρ).bind fun p ρ1 => match p with
    | .lst l => .ok (enumP l) ρ1
    | _ => .st
  | .zip a b, ρ => (evE a ρ).bind fun p ρ1 => (evE b ρ1).bind fun q ρ2 => match p.dn, q.dn with
    | .lst l, .lst m => .ok (zipP l m) ρ2
    | .tup l, .tup m => .ok (zipP l m) ρ2
    | .lst l, .tup m => .ok (zipP l m) ρ2
    | .tup l, .lst m => .ok (zipP l m) ρ2
    | _, _ => .st
  | .rev e, ρ => (evE e ρ).bind fun p ρ1 => ER.of ((seqOf p).map List.reverse) ρ1
end
/-- a value that may be our own -/
def evL : Ex → Env → ER LV
  | .app o as, ρ => (evE Φ (.app o as) ρ).bind fun p ρ1 => .ok (ownV o p) ρ1
  | .mth o a as, ρ => (evE Φ (.mth o a as) ρ).bind fun p ρ1 => .ok (ownV o p) ρ1
  | .lst es, ρ => (evE Φ (.lst es) ρ).bind fun p ρ1 => .ok (.own p) ρ1
  | .dnew, ρ => .ok (.own (.dK [] [])) ρ
  | .dispV i j, ρ => (ER.of (dispP ρ i j) ρ).bind fun p ρ1 => .ok (.own p) ρ1
  | .call j as, ρ => (evAs Φ as ρ).bind fun avs ρ1 => callE (Φ j) avs ρ1
  | .callT j as k cs bs, ρ => (evAs Φ as ρ).bind fun avs ρ1 => (evAs Φ cs ρ1).bind fun cvs ρ2 => (callE (Φ k) cvs ρ2).bind fun l ρ3 => (evAs Φ bs ρ3).bind fun bvs ρ4 => callT (Φ j) avs l bvs ρ4
  | .comp s t vs c e, ρ => (evE Φ (.comp s t vs c e) ρ).bind fun p ρ1 => .ok (.own p) ρ1
  | e, ρ => (evE Φ e ρ).bind fun p ρ1 => .ok (.fro p) ρ1

/-! ### statements -/
def forL (f : PV → Env → SO) : List PV → Env → SO
  | [], ρ => .nx ρ
  | x :: xs, ρ => match f x ρ with
    | .nx ρ1 => forL f xs ρ1
    | .ct ρ1 => forL f xs ρ1
    | .bk ρ1 => .nx ρ1
    | .rt l ρ1 => .rt l ρ1
    | .ex c ρ1 => .ex c ρ1
    | .st => .st
def whlL (c : Env → ER Bool) (f : Env → SO) : Nat → Env → SO
  | 0, _ => .st
  | n + 1, ρ => match c ρ with
    | .ok true ρ1 => match f ρ1 with
      | .nx ρ2 => whlL c f n ρ2
      | .ct ρ2 => whlL c f n ρ2
      | .bk ρ2 => .nx ρ2
      | .rt l ρ2 => .rt l ρ2
      | .ex c ρ2 => .ex c ρ2
      | .st => .st
    | .ok false ρ1 => .nx ρ1
    | .ex e ρ1 => .ex e ρ1
    | .st => .st
/-- an item goes to its target, then the body -/
def bindS (f : Env → SO) (t : Tg) (x : PV) (ρ : Env) : SO := match t.bind x ρ with
  | some ρ' => f ρ'
  | none => .st
def ER.so {α : Type} (r : ER α) (f : α → Env → SO) : SO := match r with
  | .ok a ρ => f a ρ
  | .ex c ρ => .ex c ρ
  | .st => .st
@[simp] theorem ER.so_ok {α : Type} (a : α) (ρ : Env) (f : α → Env → SO) : (ER.ok a ρ).so f = f a ρ := rfl
@[simp] theorem ER.so_ex {α : Type} (c : Str) (ρ : Env) (f : α → Env → SO) : (ER.ex c ρ : ER α).so f = .ex c ρ := rfl
@[simp] theorem ER.so_st {α : Type} (f : α → Env → SO) : (ER.st : ER α).so f = .st := rfl
def SO.of (o : Option Env) : SO := match o with
  | some ρ => .nx ρ
  | none => .st
@[simp] theorem SO.of_some (ρ : Env) : SO.of (some ρ) = .nx ρ := rfl
@[simp] theorem SO.of_none : SO.of none = .st := rfl
def parE : List Nat → List PV → Env → Option Env
  | [i, j], [p, q], ρ => some ((ρ.set i (some (.fro p))).set j (some (.fro q)))
  | _, _, _ => none
variable (n : Nat)
/-- the clause's name -/
def setX (i : Option Nat) (c : Str) (ρ : Env) : Env := match i with
  | some i => ρ.set i (some (.fro (.exc c)))
  | none => ρ
def goneX (i : Option Nat) (ρ : Env) : Env := match i with
  | some i => ρ.set i none
  | none => ρ
/-- a dict's keys, its pairs -/
def keyPV : Key → PV
  | .inl i => .int i
  | .inr x => .str x
def keysP (ks : List Key) : List PV := ks.map keyPV
def itemsP : List Key → List PV → List PV
  | k :: ks, v :: vs => .tup [keyPV k, v] :: itemsP ks vs
  | _, _ => []
/-! what may outlive the walk over a dict: nothing that may hold it -/
mutual
def PV.noD : PV → Bool
  | .tup l => PV.noDs l
  | .xt l => PV.noDs l
  | .lst l => PV.noDs l
  | .dK _ _ => false
  | .dT _ l => PV.noDs l
  | _ => true
def PV.noDs : List PV → Bool
  | [] => true
  | p :: l => p.noD && PV.noDs l
end
def thinL : LV → Option LV
  | .fro p => if p.noD = true then some (.fro p) else none
  | .own (.lst l) => if PV.noDs l = true then some (.own (.lst l)) else none
  | .own (.dK ks l) => if PV.noDs l = true then some (.own (.dK ks l)) else none
  | .own (.dT ks l) => if PV.noDs l = true then some (.own (.dT ks l)) else none
  | _ => none
def thinO (o : Option LV) : Option LV := o.bind thinL
def thin (ρ : Env) : Env := ρ.map thinO
/-- behind a walk over a dict that was ours -/
def lockR (i : Nat) (l : LV) (r : SO) : SO := match r with
  | .nx ρ => .nx ((thin ρ).set i (some l))
  | .rt v ρ => match thinL v with
    | some w => .rt w ((thin ρ).set i (some l))
    | none => .st
  | _ => .st
/-- an except suite's end -/
def suiteX (i : Option Nat) (r : SO) : SO := match r with
  | .nx ρ => .nx (goneX i ρ)
  | .bk ρ => .bk (goneX i ρ)
  | .ct ρ => .ct (goneX i ρ)
  | .rt l ρ => .rt l ρ
  | _ => .st
/-- what stands behind a try's body -/
def tryK (x : Str) (i : Option Nat) (kn : List Str) (f : Env → SO) (r : SO) : SO := match r with
  | .ex c ρ => if c ∈ kn ∧ x ∈ ("BrimError" : Str) :: kn then (if subX c x = true then suiteX i (f (setX i c ρ)) else .ex c ρ) else .st
  | r => r
mutual
def exS : St → Env → SO
  | .set i e, ρ => (evL Φ e ρ).so fun l ρ1 => .nx (ρ1.set i (some l))
  | .unp t e, ρ => (evE Φ e ρ).so fun p ρ1 => SO.of (t.bind p ρ1)
  | .par is es, ρ => (evEs Φ es ρ).so fun ps ρ1 => SO.of (parE is ps ρ1)
  | .setIx i k e, ρ => (evE Φ e ρ).so fun p ρ1 => if (at' ρ1 i).isSome = true then (evE Φ k ρ1).so fun q ρ2 => (match (at' ρ2 i).bind fun l => setIxP l q p with
    | some l => .nx (ρ2.set i (some l))
    | none => .st) else .st
  | .app i e, ρ => if ownL ρ i = true then (evE Φ e ρ).so fun p ρ1 => (match at' ρ1 i with
    | some (.own (.lst l)) => if l.length < LIM then .nx (ρ1.set i (some (.own (.lst (l ++ [p]))))) else .st
    | _ => .st) else .st
  | .ext i e, ρ => if ownL ρ i = true then (evE Φ e ρ).so fun p ρ1 => (match at' ρ1 i, p with
    | some (.own (.lst l)), .lst m => if l.length + m.length ≤ LIM then .nx (ρ1.set i (some (.own (.lst (l ++ m))))) else .st
    | _, _ => .st) else .st
  | .popA i e, ρ => if ownL ρ i = true then (evE Φ e ρ).so fun p ρ1 => (match at' ρ1 i, p with
    | some (.own (.lst l)), .int j => if 0 ≤ j ∧ j < l.length ∧ j < LIM then .nx (ρ1.set i (some (.own (.lst (l.eraseIdx j.toNat))))) else .st
    | _, _ => .st) else .st
  | .insA i k e, ρ => if ownL ρ i = true then (evE Φ k ρ).so fun q ρ1 => (evE Φ e ρ1).so fun p ρ2 => (match at' ρ2 i, q with
    | some (.own (.lst l)), .int j => if l.length < LIM ∧ 0 ≤ j ∧ j < LIM then .nx (ρ2.set i (some (.own (.lst (l.take j.toNat ++ p :: l.drop j.toNat))))) else .st
    | _, _ => .st) else .st
  | .ex e, ρ => (evE Φ e ρ).so fun _ ρ1 => .nx ρ1
  | .ret e, ρ => (evL Φ e ρ).so fun l ρ1 => .rt l ρ1
  | .retV i, ρ => match at' ρ i with
    | some l => .rt l (ρ.set i none)
    | none => .st
  | .retN, ρ => .rt (.fro .non) ρ
  | .ite c a b, ρ => (evT Φ c ρ).so fun t ρ1 => if t = true then exSs a ρ1 else exSs b ρ1
  | .whl c b, ρ => whlL (evT Φ c) (exSs b) n ρ
  | .for s t b, ρ => match s with
    | .lock i it => match at' ρ i with
      | some (.own (.dK ks vs)) => lockR i (.own (.dK ks vs)) (forL (bindS (exSs b) t) (if it = true then itemsP ks vs else keysP ks) (ρ.set i (some (.fro (.dK ks vs)))))
      | _ => .st
    | s => (evSrc Φ s ρ).so fun xs ρ1 => forL (bindS (exSs b) t) xs ρ1
  | .brk, ρ => .bk ρ
  | .cont, ρ => .ct ρ
  | .pass, ρ => .nx ρ
  | .raise c, ρ => .ex c ρ
  | .tryx b x i kn s, ρ => tryK x i kn (exSs s) (exSs b ρ)
def exSs : List St → Env → SO
  | [], ρ => .nx ρ
  | s :: ss, ρ => match exS s ρ with
    | .nx ρ1 => exSs ss ρ1
    | r => r
end
end

/-- a def: how many names, how many parameters, its body -/
structure Fn where
  nn : Nat
  np : Nat
  io : List Nat
  body : List St
/-- what is handed on to be written stands at the places that say so -/
def ioOk (io : List Nat) : Nat → List LV → Bool
  | _, [] => true
  | k, .fro _ :: ls => ioOk io (k + 1) ls
  | k, _ :: ls => decide (k ∈ io) && ioOk io (k + 1) ls
def frameOf (f : Fn) (ls : List LV) : Env := ls.map some ++ List.replicate (f.nn - ls.length) none
def lvsOf (ρ : Env) : Nat → Option (List LV)
  | 0 => some []
  | k + 1 => match ρ with
    | some l :: ρ' => (lvsOf ρ' k).map (l :: ·)
    | _ => none
def runFn (Φ : Nat → List LV → CR) (n : Nat) (f : Fn) (ls : List LV) : CR := if ls.length = f.np ∧ f.np ≤ f.nn ∧ ioOk f.io 0 ls = true then match exSs Φ n f.body (frameOf f ls) with
    | .nx ρ => match lvsOf ρ f.np with
      | some as => .ok (.fro .non) as
      | none => .st
    | .rt l ρ => match lvsOf ρ f.np with
      | some as => .ok l as
      | none => .st
    | .ex c ρ => match lvsOf ρ f.np with
      | some as => .ex c as
      | none => .st
    | _ => .st
  else .st
end Br
/-! BrC: what the terms' outcomes say of the model: readings; operations. -/
namespace Br
open PySem PySem.Spec PyProof.Rows L2

/-! ### readings -/
def Post {α : Type} (C : Cb) (W : WX) (σ : L2.St) (F : Hp) (r : ER α) (k : α → Env → Hp → Hp → Prop) : Prop := match r with
  | .ok a ρ => ∀ F' H', Same F F' → SR C F' ρ σ H' → k a ρ F' H'
  | .ex c ρ => ∀ F' H', Same F F' → SR C F' ρ σ H' → W (.ref (He.ga C.K c)) none σ H'
  | .st => False
section
variable {C : Cb} {W : WX} {σ : L2.St} {F F1 H : Hp} {ρ : Env} {α β : Type}
theorem Post.mono {r : ER α} {k : α → Env → Hp → Hp → Prop} (h : Post C W σ F r k) (e : Same F F1) : Post C W σ F1 r k := by
  cases r with
  | ok a ρ => exact fun F' H' e' s => h F' H' (e.trans e') s
  | ex c ρ => exact fun F' H' e' s => h F' H' (e.trans e') s
  | st => exact h
theorem Post.imp {r : ER α} {k k' : α → Env → Hp → Hp → Prop} (h : Post C W σ F r k) (i : ∀ a ρ F' H', Same F F' → SR C F' ρ σ H' → k a ρ F' H' → k' a ρ F' H') : Post C W σ F r k' := by
  cases r with
  | ok a ρ => exact fun F' H' e' s => i _ _ _ _ e' s (h F' H' e' s)
  | ex c ρ => exact fun F' H' e' s => h F' H' e' s
  | st => exact h
theorem Post.bind {r : ER α} {f : α → Env → ER β} {k : β → Env → Hp → Hp → Prop} (h : Post C W σ F (r.bind f) k) : Post C W σ F r fun a ρ1 F1 _ => Post C W σ F1 (f a ρ1) k := by
  cases r with
  | ok a ρ => exact fun F' H' e' s => h.mono e'
  | ex c ρ => exact fun F' H' e' s => h F' H' e' s
  | st => exact h
theorem Post.of {o : Option α} {k : α → Env → Hp → Hp → Prop} (h : Post C W σ F (ER.of o ρ) k) : ∃ a, o = some a ∧ ∀ F' H', Same F F' → SR C F' ρ σ H' → k a ρ F' H' := by
  cases o with
  | none => exact False.elim h
  | some a => exact ⟨a, rfl, h⟩
end

/-- an argument's value -/
def AVR (K : PySem.W.Frag) (F : Hp) (σ : L2.St) : AV → V → Prop
  | .val p, v => Rep K F p v
  | .ref i, v => σ[i]? = some (some v)
def AVRs (K : PySem.W.Frag) (F : Hp) (σ : L2.St) : List AV → List V → Prop
  | [], vs => vs = []
  | a :: as, vs => ∃ v r, vs = v :: r ∧ AVR K F σ a v ∧ AVRs K F σ as r
theorem AVR.mono {K : PySem.W.Frag} {F F' : Hp} {σ : L2.St} (e : Same F F') : ∀ {a : AV} {v : V}, AVR K F σ a v → AVR K F' σ a v
  | .val _, _, h => Rep.mono e h
  | .ref _, _, h => h
theorem AVRs.mono {K : PySem.W.Frag} {F F' : Hp} {σ : L2.St} (e : Same F F') : ∀ {as : List AV} {vs : List V}, AVRs K F σ as vs → AVRs K F' σ as vs
  | [], _, h => h
  | a :: as, _, h => by
    obtain ⟨v, r, h1, h2, h3⟩ := h
    exact ⟨v, r, h1, h2.mono e, AVRs.mono e h3⟩
theorem AVRs.length {K : PySem.W.Frag} {F : Hp} {σ : L2.St} : ∀ {as : List AV} {vs : List V}, AVRs K F σ as vs → as.length = vs.length
  | [], _, h => by rw [show _ = [] from h]; rfl
  | a :: as, _, h => by
    obtain ⟨v, r, rfl, h2, h3⟩ := h
    simp [h3.length]

/-- a value at hand: its object may be our own, its items are frozen -/
def RepB (K : PySem.W.Frag) (F H : Hp) (p : PV) (v : V) : Prop := match p with
  | .lst l => ∃ a xs, v = .ref a ∧ SqE K H a xs ∧ Reps K F l xs
  | .dK ks l => ∃ a xs, v = .ref a ∧ Rd H a (.dK (ks.zip xs)) ∧ ks.length = xs.length ∧ ks.Nodup ∧ Reps K F l xs
  | .dT ks l => ∃ a xs, v = .ref a ∧ H a = some (.dT (ks.zip xs)) ∧ ks.length = xs.length ∧ ks.Nodup ∧ Reps K F l xs
  | p => Rep K F p v
def RepBs (K : PySem.W.Frag) (F H : Hp) : List PV → List V → Prop
  | [], vs => vs = []
  | p :: ps, vs => ∃ v r, vs = v :: r ∧ RepB K F H p v ∧ RepBs K F H ps r
section
variable {K : PySem.W.Frag} {F F' H H' : Hp}
theorem Rep.b (e : Same F H) {p : PV} {v : V} (h : Rep K F p v) : RepB K F H p v := by
  cases p with
  | lst l => obtain ⟨a, xs, h1, h2, h3⟩ := h; exact ⟨a, xs, h1, Same.sqe e h2, h3⟩
  | dK ks l => obtain ⟨a, xs, h1, h2, h3⟩ := h; exact ⟨a, xs, h1, Rdm e h2, h3⟩
  | dT ks l => obtain ⟨a, xs, h1, h2, h3⟩ := h; exact ⟨a, xs, h1, e _ _ h2, h3⟩
  | _ => exact h
theorem OwnAt.b {p : PV} {a : Addr} (h : OwnAt K F H a p) : RepB K F H p (.ref a) := by
  cases p with
  | lst l => obtain ⟨xs, h1, h2⟩ := h; exact ⟨a, xs, rfl, .inl (.inl h1), h2⟩
  | dK ks l => obtain ⟨xs, h1, h2⟩ := h; exact ⟨a, xs, rfl, .inl h1, h2⟩
  | dT ks l => obtain ⟨xs, h1, h2⟩ := h; exact ⟨a, xs, rfl, h1, h2⟩
  | _ => exact False.elim h
theorem RepB.dn {p : PV} {v : V} (h : RepB K F H p v) : RepB K F H (PV.dn p) v := by
  cases p with
  | xt l => obtain ⟨a, xs, o, h1, h2, h3, h4⟩ := h; exact ⟨a, xs, h1, .inl (.inr ⟨o, h2⟩), h4⟩
  | _ => exact h
theorem RepBs.dn : ∀ {ps : List PV} {vs : List V}, RepBs K F H ps vs → RepBs K F H (ps.map PV.dn) vs
  | [], _, h => h
  | p :: ps, _, h => by
    obtain ⟨v, r, h1, h2, h3⟩ := h
    exact ⟨v, r, h1, h2.dn, RepBs.dn h3⟩
/-- as data read off H -/
theorem RepB.rep (e : Same F H) {p : PV} {v : V} (h : RepB K F H p v) : Rep K H p v := by
  cases p with
  | lst l => obtain ⟨a, xs, h1, h2, h3⟩ := h; exact ⟨a, xs, h1, h2, h3.mono e⟩
  | dK ks l => obtain ⟨a, xs, h1, h2, h3, h4, h5⟩ := h; exact ⟨a, xs, h1, h2, h3, h4, h5.mono e⟩
  | dT ks l => obtain ⟨a, xs, h1, h2, h3, h4, h5⟩ := h; exact ⟨a, xs, h1, h2, h3, h4, h5.mono e⟩
  | _ => exact Rep.mono e h
end
/-- what an operation tells: something there, or a new object -/
def ResR (K : PySem.W.Frag) (F H : Hp) (nw : Bool) (r : PV) (v : V) (H' : Hp) : Prop :=
  (H' = H ∧ Rep K F r v ∧ (nw = true → ∀ l ks, r ≠ .lst l ∧ r ≠ .dK ks l)) ∨ (∃ a o, H a = none ∧ v = .ref a ∧ H' = upd H a o ∧ OwnAt K F H' a r) ∨ (∃ a xs l, H a = none ∧ v = .ref a ∧ r = .tup l ∧ H' = upd H a (.tup xs) ∧ Reps K F l xs) ∨ ∃ a xs o l, H a = none ∧ v = .ref a ∧ r = .xt l ∧ o.dict = none ∧ H' = upd H a (.frz o (.tup xs)) ∧ Reps K F l xs
/-- an operation's reading -/
def rOp (K : PySem.W.Frag) (o : Op) (vs : List V) (H : Hp) (Q : VK) : Prop := ∃ F ps r, Same F H ∧ RepBs K F H ps vs ∧ opSem o ps = some r ∧ ∀ v H', ResR K F H o.new r v H' → Q v H'

section
variable {C : Cb} {W : WX} {σ : L2.St} {F F1 H : Hp} {ρ : Env}
theorem AVR.b (s : SR C F ρ σ H) {a : AV} {v : V} {p : PV} (h : AVR C.K F σ a v) (e : a.pv ρ = some p) : RepB C.K F H p v := by
  cases a with
  | val q =>
    cases e
    exact Rep.b s.le h
  | ref i =>
    have h' : σ[i]? = some (some v) := h
    unfold AV.pv at e
    dsimp only at e
    split at e
    · rename_i l hl
      cases l with
      | fro q =>
        cases e
        obtain ⟨w, hw, r⟩ := s.fro hl
        rw [h'] at hw
        cases hw
        exact Rep.b s.le r
      | own q =>
        cases e
        obtain ⟨a, hw, r, _⟩ := s.ownAt hl
        rw [h'] at hw
        cases hw
        exact r.b
      | ins c ns ls => cases e
    · cases e
theorem AVRs.b (s : SR C F ρ σ H) : ∀ {as : List AV} {vs : List V} {ps : List PV}, AVRs C.K F σ as vs → AV.pvs ρ as = some ps → RepBs C.K F H ps vs
  | [], vs, ps, h, e => by
    cases e
    exact h
  | a :: as, vs, ps, h, e => by
    obtain ⟨v, r, rfl, h2, h3⟩ := h
    unfold AV.pvs at e
    split at e
    · rename_i p qs e1 e2
      cases e
      exact ⟨v, r, rfl, h2.b s e1, AVRs.b s h3 e2⟩
    · cases e
/-- what was told is frozen -/
theorem ResR.fro (s : SR C F ρ σ H) {nw : Bool} {r : PV} {v : V} {H' : Hp} (h : ResR C.K F H nw r v H') : ∃ F', Same F F' ∧ SR C F' ρ σ H' ∧ Rep C.K F' r v := by
  rcases h with ⟨rfl, h, _⟩ | ⟨a, o, n, rfl, rfl, h⟩ | ⟨a, xs, l, n, rfl, rfl, rfl, h⟩ | ⟨a, xs, o, l, n, rfl, rfl, hd, rfl, h⟩
  rotate_left 3
  · have e : Same F (upd F a (.frz o (.tup xs))) := same_updF (s.fnone n)
    exact ⟨_, e, s.alloc n _, a, xs, o, rfl, upd_same, hd, h.mono e⟩
  · exact ⟨F, Same.refl F, s, h⟩
  · have s1 := s.pushNew n h
    exact s1.popOwn
  · have e : Same F (upd F a (.tup xs)) := same_updF (s.fnone n)
    exact ⟨_, e, s.alloc n _, a, xs, rfl, .inl (.inl upd_same), h.mono e⟩
/-- .. or kept as our own -/
theorem ResR.own (s : SR C F ρ σ H) {r : PV} {v : V} {H' : Hp} (h : ResR C.K F H true r v H') : ∃ F', Same F F' ∧ SR C F' (some (match r with
      | .lst l => .own (.lst l)
      | .dK ks l => .own (.dK ks l)
      | p => .fro p) :: ρ) (some v :: σ) H' := by
  rcases h with ⟨rfl, h, hn⟩ | ⟨a, o, n, rfl, rfl, h⟩ | ⟨a, xs, l, n, rfl, rfl, rfl, h⟩ | ⟨a, xs, o, l, n, rfl, rfl, hd, rfl, h⟩
  rotate_left 3
  · have e : Same F (upd F a (.frz o (.tup xs))) := same_updF (s.fnone n)
    exact ⟨_, e, (s.alloc n _).push ⟨a, xs, o, rfl, upd_same, hd, h.mono e⟩⟩
  · refine ⟨F, Same.refl F, ?_⟩
    have hn := hn rfl
    cases r with
    | lst l => exact absurd rfl (hn l []).1
    | dK ks l => exact absurd rfl (hn l ks).2
    | _ => exact s.push h
  · cases r with
    | lst l => exact ⟨F, Same.refl F, s.pushNew n h⟩
    | dK ks l => exact ⟨F, Same.refl F, s.pushNew n h⟩
    | dT ks l =>
      obtain ⟨F', e, s', r'⟩ := (s.pushNew n h).popOwn
      exact ⟨F', e, s'.push r'⟩
    | _ => exact False.elim h
  · have e : Same F (upd F a (.tup xs)) := same_updF (s.fnone n)
    exact ⟨_, e, (s.alloc n _).push ⟨a, xs, rfl, .inl (.inl upd_same), h.mono e⟩⟩
end

theorem opX_sem {K : PySem.W.Frag} {F H : Hp} {o : Op} {ps : List PV} {vs : List V} {r : PV} (h : RepBs K F H ps vs) (e : opX o ps = some r) : ∃ ps', RepBs K F H ps' vs ∧ opSem o ps' = some r := by
  unfold opX at e
  by_cases hr : o.raw = true
  · rw [if_pos hr] at e; exact ⟨ps, h, e⟩
  · rw [if_neg hr] at e; exact ⟨_, h.dn, e⟩
/-! ### the readings of terms -/
section
variable (C : Cb) (Φ : Nat → List LV → CR) (W : WX)
def tE (e : Ex) : TE := fun σ H Q => ∃ ρ F, SR C F ρ σ H ∧ Post C W σ F (evE Φ e ρ) fun p _ F' H' => ∀ v, Rep C.K F' p v → Q v H'
/-- one argument -/
def tA1 (e : Arg) : TE := fun σ H Q => ∃ ρ F, SR C F ρ σ H ∧ Post C W σ F (evA Φ e ρ) fun a _ F' H' => ∀ v, AVR C.K F' σ a v → Q v H'
def tAs (es : List Arg) : TA := fun σ H Q => ∃ ρ F, SR C F ρ σ H ∧ Post C W σ F (evAs Φ es ρ) fun as _ F' H' => ∀ vs, AVRs C.K F' σ as vs → Q vs H'
def tEs (es : List Ex) : TA := fun σ H Q => ∃ ρ F, SR C F ρ σ H ∧ Post C W σ F (evEs Φ es ρ) fun ps _ F' H' => ∀ vs, Reps C.K F' ps vs → Q vs H'
def tT (c : Tst) : TT := fun σ H Q => ∃ ρ F, SR C F ρ σ H ∧ Post C W σ F (evT Φ c ρ) fun b _ _ H' => Q b H'
/-- a value that may be our own: where it goes -/
def tL (e : Ex) (D : L2.St → Hp → V → Hp → LV → Env → Prop) : Prop := True
end

theorem _root_.L2.PE.weak {X : Cx} {e : Expr} {t t' : TE} (h : PE X e t) (i : ∀ σ H Q, t' σ H Q → t σ H Q) : PE X e t' := ⟨fun pins s σ H Q I q => h.run pins s σ H Q I (i σ H Q q)⟩
theorem _root_.L2.PT.weak {X : Cx} {e : Expr} {t t' : TT} (h : PT X e t) (i : ∀ σ H Q, t' σ H Q → t σ H Q) : PT X e t' := ⟨fun pins s σ H Q I q => h.run pins s σ H Q I (i σ H Q q)⟩
theorem _root_.L2.PW.weak {X : Cx} {e : Expr} {t t' : TT} (h : PW X e t) (i : ∀ σ H Q, t' σ H Q → t σ H Q) : PW X e t' := ⟨fun wh pins s σ H Q I q => h.run wh pins s σ H Q I (i σ H Q q)⟩
theorem _root_.L2.PA.weak {X : Cx} {e : List Expr} {t t' : TA} (h : PA X e t) (i : ∀ σ H Q, t' σ H Q → t σ H Q) : PA X e t' := ⟨fun pos pins s σ H Q I q => h.run pos pins s σ H Q I (i σ H Q q)⟩
theorem _root_.L2.PS.weak {X : Cx} {e : Stmt} {t t' : TS} (h : PS X e t) (i : ∀ D σ H, t' D σ H → t D σ H) : PS X e t' := ⟨fun pins s σ H D I q => h.run pins s σ H D I (i D σ H q)⟩
theorem _root_.L2.PSs.weak {X : Cx} {e : List Stmt} {t t' : TS} (h : PSs X e t) (i : ∀ D σ H, t' D σ H → t D σ H) : PSs X e t' := ⟨fun pins s σ H D I q => h.run pins s σ H D I (i D σ H q)⟩
theorem _root_.L2.PI.weak {X : Cx} {tg e : Expr} {t t' : TI} (h : PI X tg e t) (i : ∀ σ H Q, t' σ H Q → t σ H Q) : PI X tg e t' := ⟨fun pins s σ H Q I q => h.run pins s σ H Q I (i σ H Q q)⟩

section
variable {C : Cb} {Φ : Nat → List LV → CR} {W : WX} {X : Cx}
/-- from a value to an argument -/
theorem tA1_of {e : Ex} {σ : L2.St} {H : Hp} {Q : VK} (q : tA1 C Φ W (.val e) σ H Q) : tE C Φ W e σ H Q := by
  obtain ⟨ρ, F, s, p⟩ := q
  refine ⟨ρ, F, s, ?_⟩
  unfold evA at p
  exact p.bind.imp fun a ρ1 F1 H1 e1 s1 k v r => k F1 H1 (Same.refl F1) s1 v r
theorem tA1_var {i : Nat} {σ : L2.St} {H : Hp} {Q : VK} (q : tA1 C Φ W (.ref i) σ H Q) : tVar i σ H Q := by
  obtain ⟨ρ, F, s, p⟩ := q
  unfold evA at p
  split at p
  · rename_i r hr
    obtain ⟨v, hv, rv⟩ := s.fro hr
    exact ⟨v, hv, p F H (Same.refl F) s v rv⟩
  · rename_i l hl hr
    obtain ⟨v, fp, hv, rv⟩ := s.get hr
    exact ⟨v, hv, p F H (Same.refl F) s v hv⟩
  · exact False.elim p
theorem tE_var {i : Nat} {σ : L2.St} {H : Hp} {Q : VK} (q : tE C Φ W (.var i) σ H Q) : tVar i σ H Q := by
  obtain ⟨ρ, F, s, p⟩ := q
  unfold evE at p
  split at p
  · rename_i r hr
    obtain ⟨v, hv, rv⟩ := s.fro hr
    exact ⟨v, hv, p F H (Same.refl F) s v rv⟩
  · rename_i r hr
    obtain ⟨a, F', hv, e, s', rv⟩ := s.freeze hr
    exact ⟨_, hv, p F' H e s' _ rv⟩
  · exact False.elim p
theorem tAs_nil {σ : L2.St} {H : Hp} {Q : List V → Hp → Prop} (q : tAs C Φ W [] σ H Q) : tNil σ H Q := by
  obtain ⟨ρ, F, s, p⟩ := q
  unfold evAs at p
  exact p F H (Same.refl F) s [] rfl
theorem tAs_cons {e : Arg} {es : List Arg} {σ : L2.St} {H : Hp} {Q : List V → Hp → Prop} (q : tAs C Φ W (e :: es) σ H Q) : tCons (tA1 C Φ W e) (tAs C Φ W es) σ H Q := by
  obtain ⟨ρ, F, s, p⟩ := q
  unfold evAs at p
  refine ⟨ρ, F, s, p.bind.imp fun a ρ1 F1 H1 e1 s1 k v r => ⟨ρ1, F1, s1, k.bind.imp fun as ρ2 F2 H2 e2 s2 k2 vs rs => ?_⟩⟩
  exact k2 F2 H2 (Same.refl F2) s2 (v :: vs) ⟨v, vs, rfl, r.mono e2, rs⟩
theorem tEs_nil {σ : L2.St} {H : Hp} {Q : List V → Hp → Prop} (q : tEs C Φ W [] σ H Q) : tNil σ H Q := by
  obtain ⟨ρ, F, s, p⟩ := q
  unfold evEs at p
  exact p F H (Same.refl F) s [] rfl
theorem tEs_cons {e : Ex} {es : List Ex} {σ : L2.St} {H : Hp} {Q : List V → Hp → Prop} (q : tEs C Φ W (e :: es) σ H Q) : tCons (tE C Φ W e) (tEs C Φ W es) σ H Q := by
  obtain ⟨ρ, F, s, p⟩ := q
  unfold evEs at p
  refine ⟨ρ, F, s, p.bind.imp fun a ρ1 F1 H1 e1 s1 k v r => ⟨ρ1, F1, s1, k.bind.imp fun as ρ2 F2 H2 e2 s2 k2 vs rs => ?_⟩⟩
  exact k2 F2 H2 (Same.refl F2) s2 (v :: vs) (.cons (r.mono e2) rs)
/-- an operation's arguments, then its reading -/
theorem tE_app {o : Op} {es : List Arg} {σ : L2.St} {H : Hp} {Q : VK} (q : tE C Φ W (.app o es) σ H Q) : tAs C Φ W es σ H fun vs H1 => rOp C.K o vs H1 Q := by
  obtain ⟨ρ, F, s, p⟩ := q
  unfold evE at p
  refine ⟨ρ, F, s, p.bind.imp fun as ρ1 F1 H1 e1 s1 k vs r => ?_⟩
  obtain ⟨x, hx, k⟩ := k.of
  obtain ⟨ps, h1, h2⟩ := Option.bind_eq_some_iff.mp hx
  obtain ⟨ps', hb, h2'⟩ := opX_sem (r.b s1 h1) h2
  refine ⟨F1, ps', x, s1.le, hb, h2', fun v H2 h3 => ?_⟩
  obtain ⟨F3, e3, s3, r3⟩ := h3.fro s1
  exact k F3 H2 e3 s3 v r3
theorem tE_app1 {o : Op} {a : Arg} {σ : L2.St} {H : Hp} {Q : VK} (q : tE C Φ W (.app o [a]) σ H Q) : tA1 C Φ W a σ H fun x H1 => rOp C.K o [x] H1 Q := by
  obtain ⟨ρ, F, s, p⟩ := tAs_cons (tE_app q)
  exact ⟨ρ, F, s, p.imp fun a ρ1 F1 H1 e1 s1 k v r => tAs_nil (k v r)⟩
theorem tE_app2 {o : Op} {a b : Arg} {σ : L2.St} {H : Hp} {Q : VK} (q : tE C Φ W (.app o [a, b]) σ H Q) : tA1 C Φ W a σ H fun x H1 => tA1 C Φ W b σ H1 fun y H2 => rOp C.K o [x, y] H2 Q := by
  obtain ⟨ρ, F, s, p⟩ := tAs_cons (tE_app q)
  refine ⟨ρ, F, s, p.imp fun a ρ1 F1 H1 e1 s1 k v r => ?_⟩
  obtain ⟨ρ, F, s, p⟩ := tAs_cons (k v r)
  exact ⟨ρ, F, s, p.imp fun a ρ1 F1 H1 e1 s1 k v r => tAs_nil (k v r)⟩
theorem tE_app3 {o : Op} {a b c : Arg} {σ : L2.St} {H : Hp} {Q : VK} (q : tE C Φ W (.app o [a, b, c]) σ H Q) : tA1 C Φ W a σ H fun x H1 => tA1 C Φ W b σ H1 fun y H2 => tA1 C Φ W c σ H2 fun z H3 => rOp C.K o [x, y, z] H3 Q := by
  obtain ⟨ρ, F, s, p⟩ := tAs_cons (tE_app q)
  refine ⟨ρ, F, s, p.imp fun a ρ1 F1 H1 e1 s1 k v r => ?_⟩
  obtain ⟨ρ, F, s, p⟩ := tAs_cons (k v r)
  refine ⟨ρ, F, s, p.imp fun a ρ1 F1 H1 e1 s1 k v r => ?_⟩
  obtain ⟨ρ, F, s, p⟩ := tAs_cons (k v r)
  exact ⟨ρ, F, s, p.imp fun a ρ1 F1 H1 e1 s1 k v r => tAs_nil (k v r)⟩
/-- a method's receiver, then its arguments -/
theorem tE_mth {o : Op} {a : Arg} {es : List Arg} {σ : L2.St} {H : Hp} {Q : VK} (q : tE C Φ W (.mth o a es) σ H Q) :
    tA1 C Φ W a σ H fun x H1 => (∃ F p, Same F H1 ∧ recvOk o (some p) = true ∧ RepB C.K F H1 p x) ∧ tAs C Φ W es σ H1 fun vs H2 => rOp C.K o (x :: vs) H2 Q := by
  obtain ⟨ρ, F, s, p⟩ := q
  unfold evE at p
  refine ⟨ρ, F, s, p.bind.imp fun av ρ1 F1 H1 e1 s1 k v r => ?_⟩
  split at k
  · rename_i hr
    have hp : ∃ p, av.pv ρ1 = some p := by
      cases e : av.pv ρ1 with
      | none => rw [e] at hr; cases o <;> cases hr
      | some p => exact ⟨p, rfl⟩
    obtain ⟨p1, hp1⟩ := hp
    refine ⟨⟨F1, p1, s1.le, by rw [← hp1]; exact hr, r.b s1 hp1⟩, ρ1, F1, s1, k.bind.imp fun as ρ2 F2 H2 e2 s2 k2 vs rs => ?_⟩
    obtain ⟨x, hx, k⟩ := k2.of
    obtain ⟨ps, h1, h2⟩ := Option.bind_eq_some_iff.mp hx
    refine ⟨F2, ps, x, s2.le, AVRs.b s2 (as := av :: as) ⟨v, vs, rfl, r.mono e2, rs⟩ h1, h2, fun v H2 h3 => ?_⟩
    obtain ⟨F3, e3, s3, r3⟩ := h3.fro s2
    exact k F3 H2 e3 s3 v r3
  · exact False.elim k
end
end Br
set_option maxHeartbeats 1000000
/-! BrD: the operations, by the layer's rules. -/
namespace Br
open PySem PySem.Spec PyProof.Rows L2

section
variable {X : Cx}
theorem OpR.imp {f : Value → Value → Sem Value} {r r' : R2} (h : OpR X f r) (i : ∀ x y H Q, r' x y H Q → r x y H Q) : OpR X f r' :=
  fun pins s σ H x y v u Q I rx ry q => h pins s σ H x y v u Q I rx ry (i x y H Q q)
theorem CallR.imp {f : Value} {r r' : List V → Hp → VK → Prop} (h : CallR X f r) (i : ∀ xs H Q, r' xs H Q → r xs H Q) : CallR X f r' :=
  fun pins s σ H xs us Q I r q => h pins s σ H xs us Q I r (i xs H Q q)
theorem IxR.imp {r r' : R2} (h : IxR X r) (i : ∀ x y H Q, r' x y H Q → r x y H Q) : IxR X r' :=
  fun value slice pins s σ H x y v u Q I rx ry q => h value slice pins s σ H x y v u Q I rx ry (i x y H Q q)
/-- choose the rule by what is asked -/
theorem OpR.pick {f : Value → Value → Sem Value} {r' : R2} (h : ∀ (pins : List (Addr × Obj)) (s : Shared) (σ : L2.St) (H : Hp) (x y : V) (Q : VK), Inv X pins σ H s → r' x y H Q → ∃ r, OpR X f r ∧ r x y H Q) : OpR X f r' :=
  fun pins s σ H x y v u Q I rx ry q => by
    obtain ⟨r, h1, h2⟩ := h pins s σ H x y Q I q
    exact h1 pins s σ H x y v u Q I rx ry h2
theorem CallR.pick {f : Value} {r' : List V → Hp → VK → Prop} (h : ∀ (pins : List (Addr × Obj)) (s : Shared) (σ : L2.St) (H : Hp) (xs : List V) (Q : VK), Inv X pins σ H s → r' xs H Q → ∃ r, CallR X f r ∧ r xs H Q) : CallR X f r' :=
  fun pins s σ H xs us Q I r q => by
    obtain ⟨r1, h1, h2⟩ := h pins s σ H xs Q I q
    exact h1 pins s σ H xs us Q I r h2
end

/-! ### results -/
section
variable {K : PySem.W.Frag} {F H : Hp} {nw : Bool}
theorem ResR.int {i : Int} : ResR K F H nw (.int i) (.int i) H := .inl ⟨rfl, rfl, fun _ _ _ => ⟨(fun e => nomatch e), fun e => nomatch e⟩⟩
theorem ResR.bl {i : Bool} : ResR K F H nw (.bl i) (.bl i) H := .inl ⟨rfl, rfl, fun _ _ _ => ⟨(fun e => nomatch e), fun e => nomatch e⟩⟩
theorem ResR.str {i : Str} : ResR K F H nw (.str i) (.str i) H := .inl ⟨rfl, rfl, fun _ _ _ => ⟨(fun e => nomatch e), fun e => nomatch e⟩⟩
theorem ResR.lst {l : List PV} {xs : List V} {a : Addr} (n : H a = none) (r : Reps K F l xs) : ResR K F H nw (.lst l) (.ref a) (upd H a (.lst xs)) := .inr (.inl ⟨a, _, n, rfl, rfl, xs, upd_same, r⟩)
theorem ResR.tup {l : List PV} {xs : List V} {a : Addr} (n : H a = none) (r : Reps K F l xs) : ResR K F H nw (.tup l) (.ref a) (upd H a (.tup xs)) := .inr (.inr (.inl ⟨a, xs, l, n, rfl, rfl, rfl, r⟩))
theorem ResR.tup0 {l : List PV} {xs : List V} {a : Addr} (h : SqT K F a xs) (r : Reps K F l xs) : ResR K F H nw (.tup l) (.ref a) H := .inl ⟨rfl, ⟨a, xs, rfl, h, r⟩, fun _ _ _ => ⟨(fun e => nomatch e), fun e => nomatch e⟩⟩
theorem ResR.any {p : PV} {v : V} (h : Rep K F p v) : ResR K F H false p v H := .inl ⟨rfl, h, fun e => nomatch e⟩
end

/-! ### what is at hand -/
theorem RepBs.one {K : PySem.W.Frag} {F H : Hp} {ps : List PV} {x : V} (h : RepBs K F H ps [x]) : ∃ p, ps = [p] ∧ RepB K F H p x := by
  cases ps with
  | nil => cases h
  | cons p ps =>
    obtain ⟨v, r, e, h1, h2⟩ := h
    cases e
    cases ps with
    | nil => exact ⟨p, rfl, h1⟩
    | cons q qs => obtain ⟨v, r, e, _⟩ := h2; cases e
theorem RepBs.two {K : PySem.W.Frag} {F H : Hp} {ps : List PV} {x y : V} (h : RepBs K F H ps [x, y]) : ∃ p q, ps = [p, q] ∧ RepB K F H p x ∧ RepB K F H q y := by
  cases ps with
  | nil => cases h
  | cons p ps =>
    obtain ⟨v, r, e, h1, h2⟩ := h
    cases e
    obtain ⟨q, rfl, h3⟩ := RepBs.one h2
    exact ⟨p, q, rfl, h1, h3⟩
theorem RepBs.three {K : PySem.W.Frag} {F H : Hp} {ps : List PV} {x y z : V} (h : RepBs K F H ps [x, y, z]) : ∃ p q r, ps = [p, q, r] ∧ RepB K F H p x ∧ RepB K F H q y ∧ RepB K F H r z := by
  cases ps with
  | nil => cases h
  | cons p ps =>
    obtain ⟨v, r, e, h1, h2⟩ := h
    cases e
    obtain ⟨q, t, rfl, h3, h4⟩ := RepBs.two h2
    exact ⟨p, q, t, rfl, h1, h3, h4⟩
theorem intsOf_eq : ∀ {l : List PV} {ns : List Int}, intsOf l = some ns → l = ns.map PV.int
  | [], ns, h => by cases h; rfl
  | p :: l, ns, h => by
    cases p with
    | int i =>
      obtain ⟨ms, h1, rfl⟩ := Option.map_eq_some_iff.mp (show (intsOf l).map (i :: ·) = some ns from h)
      rw [intsOf_eq h1]
      rfl
    | _ => cases h
theorem blsOf_eq : ∀ {l : List PV} {ns : List Bool}, blsOf l = some ns → l = ns.map PV.bl
  | [], ns, h => by cases h; rfl
  | p :: l, ns, h => by
    cases p with
    | bl i =>
      obtain ⟨ms, h1, rfl⟩ := Option.map_eq_some_iff.mp (show (blsOf l).map (i :: ·) = some ns from h)
      rw [blsOf_eq h1]
      rfl
    | _ => cases h
theorem Reps.bls {K : PySem.W.Frag} {F : Hp} : ∀ {ns : List Bool} {xs : List V}, Reps K F (ns.map PV.bl) xs → xs = ns.map V.bl
  | [], _, h => h
  | n :: ns, _, h => by
    obtain ⟨x, r, rfl, h2, h3⟩ := h
    have h4 : x = .bl n := h2
    rw [h4, Reps.bls h3]
    rfl

/-! ### equality -/
mutual
theorem Rep.dp {K : PySem.W.Frag} {F : Hp} : ∀ (n : Nat) (p : PV) (v : V), p.isD n = true → Rep K F p v → Dp K F v p.toD
  | _, .non, v, _, h => by rw [show v = V.non from h]; exact .non
  | _, .bl b, v, _, h => by rw [show v = V.bl b from h]; exact .bl b
  | _, .int i, v, _, h => by rw [show v = V.int i from h]; exact .int i
  | _, .str x, v, _, h => by rw [show v = V.str x from h]; exact .str x
  | n + 1, .tup l, v, d, h => by
    obtain ⟨a, xs, rfl, h1, h2⟩ := h
    exact .tup h1 (Reps.dp n l xs (by unfold PV.isD at d; exact d) h2)
  | n + 1, .lst l, v, d, h => by
    obtain ⟨a, xs, rfl, h1, h2⟩ := h
    exact .lst h1.sql (Reps.dp n l xs (by unfold PV.isD at d; exact d) h2)
  | n + 1, .xt l, v, d, h => by
    obtain ⟨a, xs, o, rfl, h1, _, h2⟩ := h
    exact .tup (.inl (.inr ⟨o, h1⟩)) (Reps.dp n l xs (by unfold PV.isD at d; exact d) h2)
  | 0, .tup l, v, d, h => by simp [PV.isD] at d
  | 0, .xt l, v, d, h => by simp [PV.isD] at d
  | 0, .lst l, v, d, h => by simp [PV.isD] at d
  | n, .ty _, v, d, h => by cases n <;> simp [PV.isD] at d
  | n, .exc _, v, d, h => by cases n <;> simp [PV.isD] at d
  | n, .dK _ _, v, d, h => by cases n <;> simp [PV.isD] at d
  | n, .dT _ _, v, d, h => by cases n <;> simp [PV.isD] at d
theorem Reps.dp {K : PySem.W.Frag} {F : Hp} : ∀ (n : Nat) (l : List PV) (xs : List V), l.all (PV.isD n) = true → Reps K F l xs → DpAll K F xs (PV.toDs l)
  | _, [], xs, _, h => by rw [show xs = [] from h]; exact .nil
  | n, p :: l, xs, d, h => by
    obtain ⟨x, r, rfl, h1, h2⟩ := h
    rw [List.all_cons, Bool.and_eq_true] at d
    exact .cons (Rep.dp n p x d.1 h1) (Reps.dp n l r d.2 h2)
end
theorem toDs_len : ∀ l : List PV, (PV.toDs l).length = l.length
  | [] => rfl
  | p :: l => by simp [PV.toDs, toDs_len l]
end Br
set_option maxHeartbeats 1000000
/-! BrD2: the operations' rules. -/
namespace Br
open PySem PySem.Spec PyProof.Rows L2

theorem lim_line {n : Nat} (h : n ≤ LIM) : n ≤ sizeLine := by
  rw [sizeLine_eq]
  unfold LIM at h
  omega
theorem canLay_ds {n : Nat} : ∀ (l : List PV), l.all (PV.isD n) = true → (∀ p ∈ l, p.isD n = true → p.toD.canLay0 = true) → PyData.canLayAll0 (PV.toDs l) = true
  | [], _, _ => by simp [PV.toDs, PyData.canLayAll0]
  | p :: l, h, k => by
    rw [List.all_cons, Bool.and_eq_true] at h
    simp only [PV.toDs, PyData.canLayAll0, Bool.and_eq_true]
    exact ⟨k p (by simp) h.1, canLay_ds l h.2 fun q hq => k q (by simp [hq])⟩
theorem canLay_d : ∀ (n : Nat) (p : PV), p.isD n = true → p.toD.canLay0 = true
  | _, .non, _ => by simp [PV.toD, PyData.canLay0]
  | _, .bl b, _ => by simp [PV.toD, PyData.canLay0]
  | _, .int i, _ => by simp [PV.toD, PyData.canLay0]
  | _, .str x, h => by simp only [PV.toD, PyData.canLay0]; unfold PV.isD at h; exact h
  | n + 1, .tup l, h => by
    simp only [PV.toD, PyData.canLay0]
    unfold PV.isD at h
    exact canLay_ds l h fun p _ hp => canLay_d n p hp
  | n + 1, .xt l, h => by
    simp only [PV.toD, PyData.canLay0]
    unfold PV.isD at h
    exact canLay_ds l h fun p _ hp => canLay_d n p hp
  | n + 1, .lst l, h => by
    simp only [PV.toD, PyData.canLay0]
    unfold PV.isD at h
    exact canLay_ds l h fun p _ hp => canLay_d n p hp
  | 0, .tup l, d => by simp [PV.isD] at d
  | 0, .xt l, d => by simp [PV.isD] at d
  | 0, .lst l, d => by simp [PV.isD] at d
  | n, .ty _, d => by cases n <;> simp [PV.isD] at d
  | n, .exc _, d => by cases n <;> simp [PV.isD] at d
  | n, .dK _ _, d => by cases n <;> simp [PV.isD] at d
  | n, .dT _ _, d => by cases n <;> simp [PV.isD] at d
theorem depth_ds {n : Nat} : ∀ (l : List PV), l.all (PV.isD n) = true → (∀ p ∈ l, p.isD n = true → p.toD.depth ≤ n) → PyData.depthAll (PV.toDs l) ≤ n
  | [], _, _ => by simp [PV.toDs, PyData.depthAll]
  | p :: l, h, k => by
    rw [List.all_cons, Bool.and_eq_true] at h
    simp only [PV.toDs, PyData.depthAll]
    have h1 := k p (by simp) h.1
    have h2 := depth_ds l h.2 fun q hq => k q (by simp [hq])
    omega
theorem depth_d : ∀ (n : Nat) (p : PV), p.isD n = true → p.toD.depth ≤ n
  | _, .non, _ => by simp [PV.toD, PyData.depth]
  | _, .bl b, _ => by simp [PV.toD, PyData.depth]
  | _, .int i, _ => by simp [PV.toD, PyData.depth]
  | _, .str x, h => by simp [PV.toD, PyData.depth]
  | n + 1, .tup l, h => by
    simp only [PV.toD, PyData.depth]
    unfold PV.isD at h
    have := depth_ds l h fun p _ hp => depth_d n p hp
    omega
  | n + 1, .xt l, h => by
    simp only [PV.toD, PyData.depth]
    unfold PV.isD at h
    have := depth_ds l h fun p _ hp => depth_d n p hp
    omega
  | n + 1, .lst l, h => by
    simp only [PV.toD, PyData.depth]
    unfold PV.isD at h
    have := depth_ds l h fun p _ hp => depth_d n p hp
    omega
  | 0, .tup l, d => by simp [PV.isD] at d
  | 0, .xt l, d => by simp [PV.isD] at d
  | 0, .lst l, d => by simp [PV.isD] at d
  | n, .ty _, d => by cases n <;> simp [PV.isD] at d
  | n, .exc _, d => by cases n <;> simp [PV.isD] at d
  | n, .dK _ _, d => by cases n <;> simp [PV.isD] at d
  | n, .dT _ _, d => by cases n <;> simp [PV.isD] at d
theorem shaped_d {p : PV} (h : p.isD 60 = true) : SeqAt.shaped p.toD = true := by
  unfold SeqAt.shaped
  rw [canLay_d 60 p h, Bool.true_and]
  exact decide_eq_true (Nat.le_trans (depth_d 60 p h) (by decide))

section
variable {X : Cx}
abbrev R2of (K : PySem.W.Frag) (o : Op) : R2 := fun x y H Q => rOp K o [x, y] H Q
theorem or_eq (hu : X.A.units + 64 < cLine) : OpR X (compareOp .Eq) (R2of X.K .eq) := by
  refine OpR.imp (op_eqD hu) fun x y H Q h => ?_
  obtain ⟨F, ps, r, e, hb, ho, q⟩ := h
  obtain ⟨p, t, rfl, h1, h2⟩ := hb.two
  simp only [opSem, eqOP] at ho
  split at ho
  · rename_i hd
    cases ho
    exact ⟨p.toD, t.toD, Rep.dp 60 p x hd.1 (h1.rep e), Rep.dp 60 t y hd.2 (h2.rep e), shaped_d hd.1, shaped_d hd.2, q _ _ .bl⟩
  · cases ho
theorem or_ne (hu : X.A.units + 64 < cLine) : OpR X (compareOp .NotEq) (R2of X.K .ne) := by
  refine OpR.imp (op_neD hu) fun x y H Q h => ?_
  obtain ⟨F, ps, r, e, hb, ho, q⟩ := h
  obtain ⟨p, t, rfl, h1, h2⟩ := hb.two
  simp only [opSem, neOP] at ho
  split at ho
  · rename_i hd
    cases ho
    exact ⟨p.toD, t.toD, Rep.dp 60 p x hd.1 (h1.rep e), Rep.dp 60 t y hd.2 (h2.rep e), shaped_d hd.1, shaped_d hd.2, q _ _ .bl⟩
  · cases ho
/-- two ints -/
theorem ints2 {K : PySem.W.Frag} {F H : Hp} {x y : V} {i j : Int} (h1 : RepB K F H (.int i) x) (h2 : RepB K F H (.int j) y) : x = .int i ∧ y = .int j := ⟨h1, h2⟩
theorem or_le : OpR X (compareOp .LtE) (R2of X.K .le) := by
  refine OpR.imp op_le fun x y H Q h => ?_
  obtain ⟨F, ps, r, e, hb, ho, q⟩ := h
  obtain ⟨p, t, rfl, h1, h2⟩ := hb.two
  simp only [opSem] at ho
  unfold leOP at ho
  split at ho
  · rename_i a b hab
    cases hab
    cases ho
    exact ⟨_, _, h1, h2, q _ _ .bl⟩
  · cases ho
theorem or_gt : OpR X (compareOp .Gt) (R2of X.K .gt) := by
  refine OpR.imp op_gt fun x y H Q h => ?_
  obtain ⟨F, ps, r, e, hb, ho, q⟩ := h
  obtain ⟨p, t, rfl, h1, h2⟩ := hb.two
  simp only [opSem] at ho
  unfold gtOP at ho
  split at ho
  · rename_i a b hab
    cases hab
    cases ho
    exact ⟨_, _, h1, h2, q _ _ .bl⟩
  · cases ho
theorem or_ge : OpR X (compareOp .GtE) (R2of X.K .ge) := by
  refine OpR.imp op_ge fun x y H Q h => ?_
  obtain ⟨F, ps, r, e, hb, ho, q⟩ := h
  obtain ⟨p, t, rfl, h1, h2⟩ := hb.two
  simp only [opSem] at ho
  unfold geOP at ho
  split at ho
  · rename_i a b hab
    cases hab
    cases ho
    exact ⟨_, _, h1, h2, q _ _ .bl⟩
  · cases ho
theorem or_isN : OpR X (compareOp .Is) (fun x y H Q => y = .non ∧ rOp X.K .isN [x] H Q) := by
  refine OpR.imp op_isN fun x y H Q h => ?_
  obtain ⟨rfl, F, ps, r, e, hb, ho, q⟩ := h
  obtain ⟨p, rfl, h1⟩ := hb.one
  simp only [opSem, isNP] at ho
  cases ho
  refine ⟨rfl, ?_⟩
  have e2 : decide (x = V.non) = p.isNon := by
    cases p with
    | non => rw [show x = V.non from h1]; rfl
    | bl b => rw [show x = V.bl b from h1]; rfl
    | int b => rw [show x = V.int b from h1]; rfl
    | str b => rw [show x = V.str b from h1]; rfl
    | ty b => rw [show x = V.ty b from h1]; rfl
    | exc c => obtain ⟨a, oe, vs, rfl, _⟩ := h1; rfl
    | tup l => obtain ⟨a, xs, rfl, _⟩ := h1; rfl
    | lst l => obtain ⟨a, xs, rfl, _⟩ := h1; rfl
    | xt l => obtain ⟨a, xs, o, rfl, _⟩ := h1; rfl
    | dK ks l => obtain ⟨a, xs, rfl, _⟩ := h1; rfl
    | dT ks l => obtain ⟨a, xs, rfl, _⟩ := h1; rfl
  rw [e2]
  exact q _ _ .bl
theorem or_isNN : OpR X (compareOp .IsNot) (fun x y H Q => y = .non ∧ rOp X.K .isNN [x] H Q) := by
  refine OpR.imp op_notN fun x y H Q h => ?_
  obtain ⟨rfl, F, ps, r, e, hb, ho, q⟩ := h
  obtain ⟨p, rfl, h1⟩ := hb.one
  simp only [opSem, isNNP] at ho
  cases ho
  refine ⟨rfl, ?_⟩
  have e2 : decide (x = V.non) = p.isNon := by
    cases p with
    | non => rw [show x = V.non from h1]; rfl
    | bl b => rw [show x = V.bl b from h1]; rfl
    | int b => rw [show x = V.int b from h1]; rfl
    | str b => rw [show x = V.str b from h1]; rfl
    | ty b => rw [show x = V.ty b from h1]; rfl
    | exc c => obtain ⟨a, oe, vs, rfl, _⟩ := h1; rfl
    | tup l => obtain ⟨a, xs, rfl, _⟩ := h1; rfl
    | lst l => obtain ⟨a, xs, rfl, _⟩ := h1; rfl
    | xt l => obtain ⟨a, xs, o, rfl, _⟩ := h1; rfl
    | dK ks l => obtain ⟨a, xs, rfl, _⟩ := h1; rfl
    | dT ks l => obtain ⟨a, xs, rfl, _⟩ := h1; rfl
  rw [e2]
  exact q _ _ .bl
theorem or_isB {b : Bool} : OpR X (compareOp .Is) (fun x y H Q => y = .bl b ∧ rOp X.K (.isB b) [x] H Q) := by
  refine OpR.imp op_is_bl fun x y H Q h => ?_
  obtain ⟨rfl, F, ps, r, e, hb, ho, q⟩ := h
  obtain ⟨p, rfl, h1⟩ := hb.one
  simp only [opSem] at ho
  unfold isBP at ho
  split at ho
  · rename_i c hc
    cases hc
    cases ho
    refine ⟨c, b, h1, rfl, ?_⟩
    rw [show decide (c = b) = (c == b) from by cases c <;> cases b <;> rfl]
    exact q _ _ .bl
  · cases ho
theorem or_isNB {b : Bool} : OpR X (compareOp .IsNot) (fun x y H Q => y = .bl b ∧ rOp X.K (.isNB b) [x] H Q) := by
  refine OpR.imp op_isnot_bl fun x y H Q h => ?_
  obtain ⟨rfl, F, ps, r, e, hb, ho, q⟩ := h
  obtain ⟨p, rfl, h1⟩ := hb.one
  simp only [opSem] at ho
  unfold isNBP at ho
  split at ho
  · rename_i c hc
    cases hc
    cases ho
    refine ⟨c, b, h1, rfl, ?_⟩
    rw [show (!decide (c = b)) = (!(c == b)) from by cases c <;> cases b <;> rfl]
    exact q _ _ .bl
  · cases ho

/-! ### arithmetic -/
/-- list + list, whatever they are -/
def rCatL (K : PySem.W.Frag) : R2 := fun x y H Q => ∃ l b xs zs, x = .ref l ∧ y = .ref b ∧ SqE K H l xs ∧ SqE K H b zs ∧ xs.length + zs.length ≤ sizeLine ∧ ∀ p, H p = none → Q (.ref p) (upd H p (.lst (xs ++ zs)))
theorem Inv.rd {pins : List (Addr × Obj)} {σ : L2.St} {H : Hp} {s : Shared} {l : Addr} {xs : List V} (I : Inv X pins σ H s) (h : SqE X.K H l xs) :
    ∃ (its : List Value) (n : Nat), Vals xs its ∧ xs.length = its.length ∧ xs.length ≤ sizeLine ∧ s.heap.get? l = some { cls := .type "list", data := .seq its.toArray n } := by
  rcases h with h | ⟨its, n, hk, hz, r⟩
  · obtain ⟨z, its, n, r, e⟩ := (h.ok I.hok : ObjOk X.prog X.w H s.heap l (.lst xs))
    exact ⟨its, n, r, r.length, z, e⟩
  · have hl := r.length
    have hl2 : its.toList.length = its.size := Array.length_toList
    exact ⟨its.toList, n, r, r.length, by omega, I.kIn _ _ hk⟩
theorem op_catL : OpR X (binaryOp .Add) (rCatL X.K) := by
  intro pins s σ H x y v u Q I rx ry h
  obtain ⟨l, b, xs, zs, rfl, rfl, hH, hB, hz, q⟩ := h
  cases rx
  cases ry
  obtain ⟨its, n, r, hl, z, pl⟩ := Inv.rd I hH
  obtain ⟨its2, n2, r2, hl2, z2, pl2⟩ := Inv.rd I hB
  refine PySem.P.add_list pl pl2 ?_ (by rw [List.size_toArray, List.size_toArray]; omega)
  have ea : its.toArray ++ its2.toArray = (its ++ its2).toArray := by simp
  rw [ea]
  exact ⟨.ref _, _, I.lnew (t' := s.toks) (r.append r2) (by rw [List.length_append]; omega), rfl, q _ I.fresh⟩
theorem or_add : OpR X (binaryOp .Add) (R2of X.K .add) := by
  refine OpR.pick fun pins s σ H x y Q I h => ?_
  obtain ⟨F, ps, r, e, hb, ho, q⟩ := h
  obtain ⟨p, t, rfl, h1, h2⟩ := hb.two
  simp only [opSem] at ho
  unfold addP at ho
  split at ho
  · rename_i a b hab
    cases hab
    cases ho
    exact ⟨_, op_add, _, _, h1, h2, q _ _ .int⟩
  · rename_i a b hab
    cases hab
    split at ho
    · rename_i hz
      cases ho
      exact ⟨_, op_add_str, _, _, h1, h2, lim_line hz, q _ _ .str⟩
    · cases ho
  · rename_i a b hab
    cases hab
    split at ho
    · rename_i hz
      cases ho
      obtain ⟨c, xs, rfl, hc, rc⟩ := h1
      obtain ⟨d, ys, rfl, hd, rd⟩ := h2
      exact ⟨_, op_catL, c, d, xs, ys, rfl, rfl, hc, hd, by rw [← rc.length, ← rd.length]; exact lim_line hz, fun p hp => q _ _ (.lst hp (rc.append rd))⟩
    · cases ho
  · rename_i a b hab
    cases hab
    split at ho
    · rename_i hz
      cases ho
      obtain ⟨c, xs, rfl, hc, rc⟩ := h1
      obtain ⟨d, ys, rfl, hd, rd⟩ := h2
      refine ⟨_, op_catA, c, d, xs, ys, rfl, rfl, Same.sqt e hc, Same.sqt e hd, by rw [← rc.length, ← rd.length]; exact lim_line hz, fun hx => ?_, fun hx hy => ?_, fun hx hy p hp => q _ _ (.tup hp (rc.append rd))⟩
      · subst hx
        have : a = [] := List.eq_nil_of_length_eq_zero (by rw [rc.length]; rfl)
        subst this
        exact q _ _ (.tup0 hd rd)
      · subst hy
        have : b = [] := List.eq_nil_of_length_eq_zero (by rw [rd.length]; rfl)
        subst this
        rw [List.append_nil] at q
        exact q _ _ (.tup0 hc rc)
    · cases ho
  · cases ho
theorem or_sub : OpR X (binaryOp .Sub) (R2of X.K .sub) := by
  refine OpR.imp op_sub fun x y H Q h => ?_
  obtain ⟨F, ps, r, e, hb, ho, q⟩ := h
  obtain ⟨p, t, rfl, h1, h2⟩ := hb.two
  simp only [opSem] at ho
  unfold subP at ho
  split at ho
  · rename_i a b hab
    cases hab
    cases ho
    exact ⟨_, _, h1, h2, q _ _ .int⟩
  · cases ho
theorem mulOk.ok {i j : Int} (h : mulOk i j) : IntMulOk i j := by
  rcases h with h | h | h
  · exact CMul.ok (.inl (by omega))
  · exact CMul.ok (.inr (by omega))
  · exact CMulW.ok h
theorem op_mulA : OpR X (binaryOp .Mult) (rI mulOk fun i j => .int (i * j)) := opI fun _ _ _ _ _ _ _ hc q => mul_int q hc.ok
theorem Reps.rep {K : PySem.W.Frag} {F : Hp} {l : List PV} {xs : List V} (h : Reps K F l xs) : ∀ k : Nat, Reps K F (List.replicate k l).flatten (List.replicate k xs).flatten
  | 0 => .nil
  | k + 1 => by
    rw [List.replicate_succ, List.replicate_succ, List.flatten_cons, List.flatten_cons]
    exact h.append (h.rep k)
def rRepL (K : PySem.W.Frag) : R2 := fun x y H Q => ∃ l k xs, x = .ref l ∧ y = .int k ∧ SqE K H l xs ∧ -(2 ^ 63) ≤ k ∧ k < 2 ^ 63 ∧ xs.length * k.toNat ≤ sizeLine ∧
  ∀ p, H p = none → Q (.ref p) (upd H p (.lst (List.replicate k.toNat xs).flatten))
theorem op_repL : OpR X (binaryOp .Mult) (rRepL X.K) := by
  intro pins s σ H x y v u Q I rx ry h
  obtain ⟨l, k, xs, rfl, rfl, hH, h1, h2, hz, q⟩ := h
  cases rx
  obtain ⟨t, rfl⟩ := ry
  obtain ⟨its, n, r, hl, z, e⟩ := Inv.rd I hH
  have hlen : its.toArray.size * k.toNat ≤ sizeLine := by rw [List.size_toArray, ← hl]; exact hz
  have hcap : ¬ its.toArray.size * k.toNat > (2 ^ 63 - 1) / 8 := by
    have : (sizeLine : Nat) ≤ (2 ^ 63 - 1) / 8 := by decide
    omega
  have hfit : ¬ (!Builtin.List.listFitsIndex k) = true := by
    rw [fitsIndex_both h1 h2]
    exact Bool.false_ne_true
  have hlong : ¬ Builtin.List.listTooLong (its.toArray.size * k.toNat) = true := by
    rw [notLongL hlen]
    exact Bool.false_ne_true
  have hnew : List.foldl (fun x1 x2 => x1 ++ x2) #[] (List.replicate (if its.toArray.isEmpty = true then 0 else k.toNat) its.toArray) = (List.replicate k.toNat its).flatten.toArray := by
    have f0 : ∀ m : Nat, List.foldl (fun x1 x2 => x1 ++ x2) #[] (List.replicate m its.toArray) = (List.replicate m its).flatten.toArray := fun m => by
      have := foldl_rep its m []
      rw [List.nil_append] at this
      exact this
    rw [f0]
    cases its with
    | nil => simp
    | cons a r' => rw [if_neg (by simp)]
  refine wpAny_binaryOp_repeat_ref (T := "list") (U := "int") (by decide) ⟨_, e, rfl⟩ (fun s' => typeIs_int s' k t) noFill_list_mul F.fills_int_mul F.slot_int_rmul repeat_list F.slot_int_index.lookup
    (call_meets F.slot_int_rmul (typeIs_int s k t) F.entry_int_rmul (F.args_int_rmul_2 _ _) (int___rmul___int_list k t l its.toArray n)
      ⟨e, rfl, ⟨_, e, rfl⟩, call_meets F.slot_list_mul ⟨_, e, rfl⟩ F.entry_list_mul (F.args_list_mul_2 _ _) (AutoListH.list___mul___list_int_3 l its.toArray n k t hfit hcap hlong) ⟨e, ?_⟩⟩)
  rw [hnew]
  exact ⟨.ref _, _, I.lnew (t' := s.toks) (r.rep k.toNat) (by rw [PyProof.Rows.lm_len_rep_flat, Nat.mul_comm]; exact hz), rfl, q _ I.fresh⟩
theorem tuple_mul1 (l : Addr) (items : Array Value) (n : Nat) (dd : Option Addr) (sl : Array (Option Value)) (u : Tok) :
    Meets (Builtin.«tuple.__mul__» ⟨[.ref l, .int 1 u], []⟩) (fun _ R s => s.heap.get? l = some { cls := .type "tuple", dict := dd, data := .seq items n, slots := sl } ∧
      R (.ok (.ret (Value.ref l))) s) :=
  .of_wp fun prog w A R s h => by
    obtain ⟨hp, g, d, tk, os⟩ := s
    obtain ⟨hl, h⟩ := h
    have f1 := AutoSeq1.idx_int
    wp_walk using wpAny_loadPart' hl
    exact ⟨_, rfl, h⟩
def rRepA (K : PySem.W.Frag) : R2 := fun x y H Q => ∃ l k xs, x = .ref l ∧ y = .int k ∧ SqT K H l xs ∧ xs ≠ [] ∧ 1 ≤ k ∧ k ≤ 1000 ∧ xs.length ≤ 1000 ∧ (k = 1 → Q (.ref l) H) ∧ ∀ p, H p = none → Q (.ref p) (upd H p (.tup (List.replicate k.toNat xs).flatten))
theorem op_repA : OpR X (binaryOp .Mult) (rRepA X.K) := by
  intro pins s σ H x y v u Q I rx ry h
  obtain ⟨l, k, xs, rfl, rfl, hT, hne, h1, h2, hz, q1, q⟩ := h
  by_cases hk : k = 1
  · subst hk
    cases rx
    obtain ⟨t, rfl⟩ := ry
    obtain ⟨its, r, ⟨⟨cls, dd, data, sl⟩, ho, hc, n, hd⟩, hs⟩ := I.tuple hT
    simp only at hc hd
    subst hc hd
    exact wpAny_binaryOp_repeat_ref (T := "tuple") (U := "int") (by decide) ⟨_, ho, rfl⟩ (fun s' => typeIs_int s' 1 t) noFill_tuple_mul F.fills_int_mul F.slot_int_rmul repeat_tuple F.slot_int_index.lookup
      (call_meets F.slot_int_rmul (typeIs_int s 1 t) F.entry_int_rmul (F.args_int_rmul_2 _ _) (int_rmul_tuple 1 t l its.toArray n dd sl)
        ⟨ho, rfl, ⟨_, ho, rfl⟩, call_meets F.slot_tuple_mul ⟨_, ho, rfl⟩ F.entry_tuple_mul (F.args_tuple_mul_2 _ _) (tuple_mul1 l its.toArray n dd sl t) ⟨ho, ⟨.ref l, H, I, rfl, q1 rfl⟩⟩⟩)
  · exact op_repT pins s σ H _ _ v u Q I rx ry ⟨l, k, xs, rfl, rfl, hT, hne, by omega, h2, hz, q⟩
theorem or_mul : OpR X (binaryOp .Mult) (R2of X.K .mul) := by
  refine OpR.pick fun pins s σ H x y Q I h => ?_
  obtain ⟨F, ps, r, e, hb, ho, q⟩ := h
  obtain ⟨p, t, rfl, h1, h2⟩ := hb.two
  simp only [opSem] at ho
  unfold mulP at ho
  split at ho
  · rename_i a b hab
    cases hab
    split at ho
    · rename_i hm
      cases ho
      exact ⟨_, op_mulA, _, _, h1, h2, hm, q _ _ .int⟩
    · cases ho
  · rename_i l b hab
    cases hab
    split at ho
    · rename_i hm
      cases ho
      obtain ⟨c, xs, rfl, hc, rc⟩ := h1
      have hx := rc.length.symm
      have hb' : b < 2 ^ 63 := by have := hm.2.1; unfold LIM at this; omega
      refine ⟨_, op_repL, c, b, xs, rfl, h2, hc, by have := hm.1; omega, hb', ?_, fun p hp => q _ _ (.lst hp (rc.rep _))⟩
      rw [hx]
      rcases hm.2.2 with h1 | h1
      · rw [h1, Nat.one_mul]
        have := hm.2.1
        exact lim_line (by unfold LIM at this ⊢; omega)
      · exact lim_line h1
    · cases ho
  · rename_i l b hab
    cases hab
    split at ho
    · rename_i hm
      cases ho
      obtain ⟨c, xs, rfl, hc, rc⟩ := h1
      have hx := rc.length.symm
      refine ⟨_, op_repA, c, b, xs, rfl, h2, Same.sqt e hc, ?_, hm.1, hm.2.1, by have := hm.2.2.2; omega, ?_, fun p hp => q _ _ (.tup hp (rc.rep _))⟩
      · intro e
        subst e
        have := hm.2.2.1
        rw [List.length_nil] at hx
        exact this (List.eq_nil_of_length_eq_zero (by omega))
      · intro e1
        subst e1
        refine q _ _ ?_
        have e2 : (List.replicate (1 : Int).toNat l).flatten = l := by
          show (List.replicate 1 l).flatten = l
          simp
        rw [e2]
        exact .tup0 hc rc
    · cases ho
  · cases ho
theorem op_fdivA : OpR X (binaryOp .FloorDiv) (rI (fun _ j => 0 < j ∧ j.natAbs.log2 < 9000) fun i j => .int (i / j)) := opI fun i j _ _ _ _ _ hc q => by
  have h1 : (0 : Int) < j := hc.1
  exact floordiv_int (by omega) (by rw [Int.fdiv_eq_ediv_of_nonneg i (by omega)]; exact q) (.inl (PyProof.noPylong_of_log2 hc.2))
theorem op_fdivM : OpR X (binaryOp .FloorDiv) (rI (fun _ j => j < 0 ∧ j.natAbs.log2 < 9000) fun i j => .int (i.fdiv j)) := opI fun i j _ _ _ _ _ hc q => by
  have h1 : j < (0 : Int) := hc.1
  exact floordiv_int (by omega) q (.inl (PyProof.noPylong_of_log2 hc.2))
theorem or_fdiv : OpR X (binaryOp .FloorDiv) (R2of X.K .fdiv) := by
  refine OpR.pick fun pins s σ H x y Q I h => ?_
  obtain ⟨F, ps, r, e, hb, ho, q⟩ := h
  obtain ⟨p, t, rfl, h1, h2⟩ := hb.two
  simp only [opSem] at ho
  unfold fdivP at ho
  split at ho
  · rename_i a b hab
    cases hab
    split at ho
    · rename_i hm
      cases ho
      exact ⟨_, op_fdivA, _, _, h1, h2, hm, q _ _ .int⟩
    · split at ho
      · rename_i hm
        cases ho
        exact ⟨_, op_fdivM, _, _, h1, h2, hm, q _ _ .int⟩
      · cases ho
  · cases ho
theorem or_mod : OpR X (binaryOp .Mod) (R2of X.K .mod) := by
  refine OpR.imp op_mod fun x y H Q h => ?_
  obtain ⟨F, ps, r, e, hb, ho, q⟩ := h
  obtain ⟨p, t, rfl, h1, h2⟩ := hb.two
  simp only [opSem] at ho
  unfold modP at ho
  split at ho
  · rename_i a b hab
    cases hab
    split at ho
    · rename_i hm
      cases ho
      exact ⟨_, _, h1, h2, hm, q _ _ .int⟩
    · cases ho
  · cases ho
theorem or_pow : OpR X (binaryOp .Pow) (R2of X.K .pow) := by
  refine OpR.imp op_pow fun x y H Q h => ?_
  obtain ⟨F, ps, r, e, hb, ho, q⟩ := h
  obtain ⟨p, t, rfl, h1, h2⟩ := hb.two
  simp only [opSem] at ho
  unfold powP at ho
  split at ho
  · rename_i a b hab
    cases hab
    split at ho
    · rename_i hm
      cases ho
      exact ⟨_, _, h1, h2, hm, q _ _ .int⟩
    · cases ho
  · cases ho
theorem ur_neg : UnR X (unaryOp .USub) (fun x H Q => rOp X.K .neg [x] H Q) := by
  intro pins s σ H x v Q I rx h
  obtain ⟨F, ps, r, e, hb, ho, q⟩ := h
  obtain ⟨p, rfl, h1⟩ := hb.one
  simp only [opSem] at ho
  unfold negP at ho
  split at ho
  · rename_i a hab
    cases hab
    cases ho
    exact un_neg pins s σ H x v Q I rx ⟨a, h1, q _ _ .int⟩
  · cases ho
end
end Br
set_option maxHeartbeats 1000000
/-! BrD3: built-in functions, subscripts. -/
namespace Br
open PySem PySem.Spec PyProof.Rows L2

section
variable {X : Cx}
abbrev RCof (K : PySem.W.Frag) (o : Op) : List V → Hp → VK → Prop := fun xs H Q => rOp K o xs H Q
theorem rOp_one {K : PySem.W.Frag} {o : Op} {xs : List V} {H : Hp} {Q : VK} (h : rOp K o xs H Q) (h1 : ∀ ps, ps.length ≠ 1 → opSem o ps = none) : ∃ x F p r, xs = [x] ∧ Same F H ∧ RepB K F H p x ∧ opSem o [p] = some r ∧ ∀ v H', ResR K F H o.new r v H' → Q v H' := by
  obtain ⟨F, ps, r, e, hb, ho, q⟩ := h
  have hl : ps.length = 1 := by
    by_cases h : ps.length = 1
    · exact h
    · rw [h1 ps h] at ho; cases ho
  match ps, hl with
  | [p], _ =>
    obtain ⟨v, r', rfl, h2, h3⟩ := hb
    rw [show r' = [] from h3]
    exact ⟨v, F, p, r, rfl, e, h2, ho, q⟩
theorem rOp_two {K : PySem.W.Frag} {o : Op} {xs : List V} {H : Hp} {Q : VK} (h : rOp K o xs H Q) (h1 : ∀ ps, ps.length ≠ 2 → opSem o ps = none) : ∃ x y F p t r, xs = [x, y] ∧ Same F H ∧ RepB K F H p x ∧ RepB K F H t y ∧ opSem o [p, t] = some r ∧ ∀ v H', ResR K F H o.new r v H' → Q v H' := by
  obtain ⟨F, ps, r, e, hb, ho, q⟩ := h
  have hl : ps.length = 2 := by
    by_cases h : ps.length = 2
    · exact h
    · rw [h1 ps h] at ho; cases ho
  match ps, hl with
  | [p, t], _ =>
    obtain ⟨v, r', rfl, h2, v2, r2, rfl, h3, h4⟩ := hb
    rw [show r2 = [] from h4]
    exact ⟨v, v2, F, p, t, r, rfl, e, h2, h3, ho, q⟩
theorem len1 {f : List PV → Option PV} (h0 : f [] = none) (h2 : ∀ a b c, f (a :: b :: c) = none) : ∀ ps : List PV, ps.length ≠ 1 → f ps = none
  | [], _ => h0
  | [a], h => absurd rfl h
  | a :: b :: c, _ => h2 a b c
theorem len2 {f : List PV → Option PV} (h0 : f [] = none) (h1 : ∀ a, f [a] = none) (h2 : ∀ a b c d, f (a :: b :: c :: d) = none) : ∀ ps : List PV, ps.length ≠ 2 → f ps = none
  | [], _ => h0
  | [a], h => h1 a
  | [a, b], h => absurd rfl h
  | a :: b :: c :: d, _ => h2 a b c d

theorem cr_lenD : CallR X (.builtin "len") (fun xs H Q => ∃ a kvs, xs = [.ref a] ∧ Rd H a (.dK kvs) ∧ Q (.int kvs.length) H) := by
  intro pins s σ H xs us Q I r h
  obtain ⟨a, kvs, rfl, e, q⟩ := h
  rw [Vals.ref1 r]
  exact d_len I e fun t s' I' => ⟨.int _, H, I', ⟨_, rfl⟩, q⟩
theorem cr_len : CallR X (.builtin "len") (RCof X.K .len) := by
  refine CallR.pick fun pins s σ H xs Q I h => ?_
  obtain ⟨x, F, p, r, rfl, e, h1, ho, q⟩ := rOp_one h (len1 rfl fun a b c => by cases a <;> rfl)
  simp only [opSem] at ho
  unfold lenP at ho
  split at ho
  · rename_i l hl
    cases hl
    cases ho
    obtain ⟨c, xs, rfl, hc, rc⟩ := h1
    exact ⟨_, call_len, _, _, rfl, .inl ⟨xs, hc.sql, rfl⟩, by rw [← rc.length]; exact q _ _ .int⟩
  · rename_i l hl
    cases hl
    cases ho
    obtain ⟨c, xs, rfl, hc, rc⟩ := h1
    exact ⟨_, call_len, _, _, rfl, .inr ⟨xs, Same.sqt e hc, rfl⟩, by rw [← rc.length]; exact q _ _ .int⟩
  · rename_i ks vs hl
    cases hl
    cases ho
    obtain ⟨c, xs, rfl, hc, hl, _, rc⟩ := h1
    refine ⟨_, cr_lenD, c, ks.zip xs, rfl, hc, ?_⟩
    rw [List.length_zip, ← hl, Nat.min_self]
    exact q _ _ .int
  · rename_i y hl
    cases hl
    split at ho
    · rename_i hz
      cases ho
      rw [show x = V.str y from h1]
      exact ⟨_, call_len, _, _, rfl, ⟨lim_line hz, rfl⟩, q _ _ .int⟩
    · cases ho
  · cases ho
theorem cr_abs : CallR X (.builtin "abs") (RCof X.K .abs) := by
  refine CallR.imp call_abs fun xs H Q h => ?_
  obtain ⟨x, F, p, r, rfl, e, h1, ho, q⟩ := rOp_one h (len1 rfl fun a b c => by cases a <;> rfl)
  simp only [opSem] at ho
  unfold absP at ho
  split at ho
  · rename_i l hl
    cases hl
    cases ho
    rw [show x = V.int l from h1]
    exact ⟨l, rfl, q _ _ .int⟩
  · cases ho
theorem cr_min2 (hc : X.calm = true) : CallR X (.builtin "min") (RCof X.K .min2) := by
  refine CallR.imp (call_min2 hc) fun xs H Q h => ?_
  obtain ⟨x, y, F, p, t, r, rfl, e, h1, h2, ho, q⟩ := rOp_two h (len2 rfl (fun a => by cases a <;> rfl) fun a b c d => by cases a <;> cases b <;> rfl)
  simp only [opSem] at ho
  unfold min2P at ho
  split at ho
  · rename_i a b hl
    cases hl
    cases ho
    rw [show x = V.int a from h1, show y = V.int b from h2]
    exact ⟨a, b, rfl, q _ _ .int⟩
  · cases ho
theorem cr_max2 (hc : X.calm = true) : CallR X (.builtin "max") (RCof X.K .max2) := by
  refine CallR.imp (call_max2 hc) fun xs H Q h => ?_
  obtain ⟨x, y, F, p, t, r, rfl, e, h1, h2, ho, q⟩ := rOp_two h (len2 rfl (fun a => by cases a <;> rfl) fun a b c d => by cases a <;> cases b <;> rfl)
  simp only [opSem] at ho
  unfold max2P at ho
  split at ho
  · rename_i a b hl
    cases hl
    cases ho
    rw [show x = V.int a from h1, show y = V.int b from h2]
    exact ⟨a, b, rfl, q _ _ .int⟩
  · cases ho
theorem fold_max : ∀ (ns : List Int) (n : Int), (ns.foldl (fun a b => if b > a then b else a) n ∈ n :: ns) ∧ ∀ y ∈ n :: ns, y ≤ ns.foldl (fun a b => if b > a then b else a) n
  | [], n => ⟨by simp, by simp⟩
  | m :: ns, n => by
    rw [List.foldl_cons]
    by_cases hmn : m > n
    · rw [if_pos hmn]
      obtain ⟨h1, h2⟩ := fold_max ns m
      refine ⟨by rcases List.mem_cons.mp h1 with h | h <;> simp [h], fun y hy => ?_⟩
      have h3 := h2 m (by simp)
      rcases List.mem_cons.mp hy with rfl | hy
      · omega
      · exact h2 y hy
    · rw [if_neg hmn]
      obtain ⟨h1, h2⟩ := fold_max ns n
      refine ⟨by rcases List.mem_cons.mp h1 with h | h <;> simp [h], fun y hy => ?_⟩
      have h3 := h2 n (by simp)
      rcases List.mem_cons.mp hy with rfl | hy
      · exact h3
      · rcases List.mem_cons.mp hy with rfl | hy
        · omega
        · exact h2 y (by simp [hy])
theorem fold_min : ∀ (ns : List Int) (n : Int), (ns.foldl (fun a b => if b < a then b else a) n ∈ n :: ns) ∧ ∀ y ∈ n :: ns, ns.foldl (fun a b => if b < a then b else a) n ≤ y
  | [], n => ⟨by simp, by simp⟩
  | m :: ns, n => by
    rw [List.foldl_cons]
    by_cases hmn : m < n
    · rw [if_pos hmn]
      obtain ⟨h1, h2⟩ := fold_min ns m
      refine ⟨by rcases List.mem_cons.mp h1 with h | h <;> simp [h], fun y hy => ?_⟩
      have h3 := h2 m (by simp)
      rcases List.mem_cons.mp hy with rfl | hy
      · omega
      · exact h2 y hy
    · rw [if_neg hmn]
      obtain ⟨h1, h2⟩ := fold_min ns n
      refine ⟨by rcases List.mem_cons.mp h1 with h | h <;> simp [h], fun y hy => ?_⟩
      have h3 := h2 n (by simp)
      rcases List.mem_cons.mp hy with rfl | hy
      · exact h3
      · rcases List.mem_cons.mp hy with rfl | hy
        · omega
        · exact h2 y (by simp [hy])
theorem cr_maxL (hc : X.calm = true) : CallR X (.builtin "max") (RCof X.K .maxL) := by
  refine CallR.imp (cr_max hc) fun xs H Q h => ?_
  obtain ⟨x, F, p, r, rfl, e, h1, ho, q⟩ := rOp_one h (len1 rfl fun a b c => by cases a <;> rfl)
  simp only [opSem] at ho
  unfold maxLP at ho
  split at ho
  · rename_i l hl
    cases hl
    obtain ⟨ns, hn, ho⟩ := Option.bind_eq_some_iff.mp ho
    obtain ⟨m, hm, rfl⟩ := Option.map_eq_some_iff.mp ho
    rw [intsOf_eq hn] at h1
    obtain ⟨c, xs, rfl, hc2, rc⟩ := h1
    rw [rc.ints] at hc2
    cases ns with
    | nil => cases hm
    | cons n ns =>
      cases hm
      refine ⟨c, n :: ns, rfl, hc2.sql, by simp, fun m h3 h4 => ?_⟩
      obtain ⟨k1, k2⟩ := fold_max ns n
      have e1 := h4 _ k1
      have e2 := k2 _ h3
      rw [show m = ns.foldl (fun a b => if b > a then b else a) n from by omega]
      exact q _ _ .int
  · cases ho
theorem cr_minL (hc : X.calm = true) : CallR X (.builtin "min") (RCof X.K .minL) := by
  refine CallR.imp (cr_min hc) fun xs H Q h => ?_
  obtain ⟨x, F, p, r, rfl, e, h1, ho, q⟩ := rOp_one h (len1 rfl fun a b c => by cases a <;> rfl)
  simp only [opSem] at ho
  unfold minLP at ho
  split at ho
  · rename_i l hl
    cases hl
    obtain ⟨ns, hn, ho⟩ := Option.bind_eq_some_iff.mp ho
    obtain ⟨m, hm, rfl⟩ := Option.map_eq_some_iff.mp ho
    rw [intsOf_eq hn] at h1
    obtain ⟨c, xs, rfl, hc2, rc⟩ := h1
    rw [rc.ints] at hc2
    cases ns with
    | nil => cases hm
    | cons n ns =>
      cases hm
      refine ⟨c, n :: ns, rfl, hc2.sql, by simp, fun m h3 h4 => ?_⟩
      obtain ⟨k1, k2⟩ := fold_min ns n
      have e1 := h4 _ k1
      have e2 := k2 _ h3
      rw [show m = ns.foldl (fun a b => if b < a then b else a) n from by omega]
      exact q _ _ .int
  · cases ho
theorem cr_int1 : CallR X (.type "int") (RCof X.K .int1) := by
  refine CallR.imp call_int1 fun xs H Q h => ?_
  obtain ⟨x, F, p, r, rfl, e, h1, ho, q⟩ := rOp_one h (len1 rfl fun a b c => by cases a <;> rfl)
  simp only [opSem] at ho
  unfold int1P at ho
  split at ho
  · rename_i a hl
    cases hl
    cases ho
    rw [show x = V.int a from h1]
    exact .inl ⟨a, rfl, q _ _ .int⟩
  · rename_i a hl
    cases hl
    cases ho
    rw [show x = V.bl a from h1]
    exact .inr ⟨a, rfl, q _ _ .int⟩
  · cases ho
theorem cr_str1 : CallR X (.type "str") (RCof X.K .str1) := by
  refine CallR.imp call_str_int fun xs H Q h => ?_
  obtain ⟨x, F, p, r, rfl, e, h1, ho, q⟩ := rOp_one h (len1 rfl fun a b c => by cases a <;> rfl)
  simp only [opSem] at ho
  unfold str1P at ho
  split at ho
  · rename_i a hl
    cases hl
    split at ho
    · rename_i hz
      cases ho
      rw [show x = V.int a from h1]
      exact ⟨a, rfl, hz, q _ _ .str⟩
    · cases ho
  · cases ho
theorem cr_tuple1 : CallR X (.type "tuple") (RCof X.K .tuple1) := by
  refine CallR.imp call_tuple_of fun xs H Q h => ?_
  obtain ⟨x, F, p, r, rfl, e, h1, ho, q⟩ := rOp_one h (len1 rfl fun a b c => by cases a <;> rfl)
  simp only [opSem] at ho
  unfold tuple1P at ho
  split at ho
  · rename_i a hl
    cases hl
    cases ho
    obtain ⟨c, xs, rfl, hc, rc⟩ := h1
    exact ⟨c, xs, rfl, .inl ⟨hc.sql, fun l hl => q _ _ (.tup hl rc)⟩⟩
  · rename_i a hl
    cases hl
    cases ho
    obtain ⟨c, xs, rfl, hc, rc⟩ := h1
    exact ⟨c, xs, rfl, .inr ⟨Same.sqt e hc, q _ _ (.tup0 hc rc)⟩⟩
  · cases ho
theorem cr_list1 : CallR X (.type "list") (RCof X.K .list1) := by
  refine CallR.imp call_list_of fun xs H Q h => ?_
  obtain ⟨x, F, p, r, rfl, e, h1, ho, q⟩ := rOp_one h (len1 rfl fun a b c => by cases a <;> rfl)
  simp only [opSem] at ho
  unfold list1P at ho
  split at ho
  · rename_i a hl
    cases hl
    cases ho
    obtain ⟨c, xs, rfl, hc, rc⟩ := h1
    exact ⟨c, xs, rfl, .inl hc.sql, fun l hl => q _ _ (.lst hl rc)⟩
  · rename_i a hl
    cases hl
    cases ho
    obtain ⟨c, xs, rfl, hc, rc⟩ := h1
    exact ⟨c, xs, rfl, .inr (Same.sqt e hc), fun l hl => q _ _ (.lst hl rc)⟩
  · cases ho
theorem insI_perm (x : Int) : ∀ l : List Int, (insI x l).Perm (x :: l)
  | [] => List.Perm.refl _
  | y :: ys => by
    unfold insI
    split
    · exact List.Perm.refl _
    · exact ((insI_perm x ys).cons y).trans (List.Perm.swap x y ys)
theorem sortI_perm : ∀ l : List Int, (sortI l).Perm l
  | [] => List.Perm.refl _
  | x :: xs => (insI_perm x _).trans ((sortI_perm xs).cons x)
theorem insI_sorted (x : Int) : ∀ l : List Int, l.Pairwise (· ≤ ·) → (insI x l).Pairwise (· ≤ ·)
  | [], _ => by simp [insI]
  | y :: ys, h => by
    unfold insI
    have h' := List.pairwise_cons.mp h
    split
    · rename_i hxy
      refine List.pairwise_cons.mpr ⟨fun z hz => ?_, h⟩
      rcases List.mem_cons.mp hz with rfl | hz
      · exact hxy
      · exact Int.le_trans hxy (h'.1 z hz)
    · rename_i hxy
      refine List.pairwise_cons.mpr ⟨fun z hz => ?_, insI_sorted x ys h'.2⟩
      rcases List.mem_cons.mp ((insI_perm x ys).mem_iff.mp hz) with rfl | hz
      · omega
      · exact h'.1 z hz
theorem sortI_sorted : ∀ l : List Int, (sortI l).Pairwise (· ≤ ·)
  | [] => List.Pairwise.nil
  | x :: xs => insI_sorted x _ (sortI_sorted xs)
theorem intKeys_eq : ∀ {ks : List Key} {ns : List Int}, intKeys ks = some ns → ks = ns.map Sum.inl
  | [], ns, h => by cases h; rfl
  | .inl i :: ks, ns, h => by
    obtain ⟨ms, h1, rfl⟩ := Option.map_eq_some_iff.mp (show (intKeys ks).map (i :: ·) = some ns from h)
    rw [intKeys_eq h1]
    rfl
  | .inr x :: ks, ns, h => by cases h
theorem cr_sortedL (hc : X.calm = true) : CallR X (.builtin "sorted") (RCof X.K .sorted) := by
  refine CallR.pick fun pins s σ H xs Q I h => ?_
  obtain ⟨x, F, p, r, rfl, e, h1, ho, q⟩ := rOp_one h (len1 rfl fun a b c => by cases a <;> rfl)
  simp only [opSem] at ho
  unfold sortedP at ho
  split at ho
  · rename_i l hl
    cases hl
    obtain ⟨ns, hn, rfl⟩ := Option.map_eq_some_iff.mp ho
    rw [intsOf_eq hn] at h1
    obtain ⟨c, xs, rfl, hc2, rc⟩ := h1
    rw [rc.ints] at hc2
    refine ⟨_, cr_sortedI, c, ns, rfl, hc2.sql, fun ns' p h3 h4 h5 => ?_⟩
    have e2 : ns' = sortI ns := PySem.W.ksm_same (h3.trans (sortI_perm ns).symm) h4 (sortI_sorted ns)
    rw [e2]
    exact q _ _ (.lst h5 (Reps.of_ints _))
  · rename_i ks vs hl
    cases hl
    split at ho
    · rename_i hlt
      obtain ⟨ns, hn, rfl⟩ := Option.map_eq_some_iff.mp ho
      have hk := intKeys_eq hn
      subst hk
      obtain ⟨c, xs, rfl, hc2, hlen, nd, rc⟩ := h1
      rw [List.length_map] at hlt
      refine ⟨_, call_sortedDI hc, c, _, ns, rfl, hc2, List.map_fst_zip (Nat.le_of_eq hlen), hlt, fun ns' p h3 h4 h5 => ?_⟩
      have e2 : ns' = sortI ns := PySem.W.ksm_same (h3.trans (sortI_perm ns).symm) h4 (sortI_sorted ns)
      rw [e2]
      exact q _ _ (.lst h5 (Reps.of_ints _))
    · cases ho
  · cases ho
theorem cr_allL (hc : X.calm = true) : CallR X (.builtin "all") (RCof X.K .allL) := by
  refine CallR.imp (cr_all hc) fun xs H Q h => ?_
  obtain ⟨x, F, p, r, rfl, e, h1, ho, q⟩ := rOp_one h (len1 rfl fun a b c => by cases a <;> rfl)
  simp only [opSem] at ho
  unfold allLP at ho
  split at ho
  · rename_i l hl
    cases hl
    obtain ⟨ns, hn, rfl⟩ := Option.map_eq_some_iff.mp ho
    rw [blsOf_eq hn] at h1
    obtain ⟨c, xs, rfl, hc2, rc⟩ := h1
    rw [rc.bls] at hc2
    exact ⟨c, ns, rfl, hc2.sql, q _ _ .bl⟩
  · cases ho
theorem cr_anyL (hc : X.calm = true) : CallR X (.builtin "any") (RCof X.K .anyL) := by
  refine CallR.imp (cr_any hc) fun xs H Q h => ?_
  obtain ⟨x, F, p, r, rfl, e, h1, ho, q⟩ := rOp_one h (len1 rfl fun a b c => by cases a <;> rfl)
  simp only [opSem] at ho
  unfold anyLP at ho
  split at ho
  · rename_i l hl
    cases hl
    obtain ⟨ns, hn, rfl⟩ := Option.map_eq_some_iff.mp ho
    rw [blsOf_eq hn] at h1
    obtain ⟨c, xs, rfl, hc2, rc⟩ := h1
    rw [rc.bls] at hc2
    exact ⟨c, ns, rfl, hc2.sql, q _ _ .bl⟩
  · cases ho

/-! ### subscripts -/
theorem atI_rep {K : PySem.W.Frag} {F : Hp} {l : List PV} {xs : List V} {i : Int} {p : PV} (h : Reps K F l xs) (e : atI l i = some p) : ∃ x, atI xs i = some x ∧ Rep K F p x := by
  unfold atI at e ⊢
  obtain ⟨j, h1, h2⟩ := Option.bind_eq_some_iff.mp e
  obtain ⟨x, h3, h4⟩ := h.get h2
  exact ⟨x, by rw [← h.length, h1]; exact h3, h4⟩
theorem IxR.pick {r' : R2} (h : ∀ (pins : List (Addr × Obj)) (s : Shared) (σ : L2.St) (H : Hp) (x y : V) (Q : VK), Inv X pins σ H s → r' x y H Q → ∃ r, IxR X r ∧ r x y H Q) : IxR X r' :=
  fun value slice pins s σ H x y v u Q I rx ry q => by
    obtain ⟨r, h1, h2⟩ := h pins s σ H x y Q I q
    exact h1 value slice pins s σ H x y v u Q I rx ry h2
end
end Br
set_option maxHeartbeats 1000000
/-! BrD4: subscripts, slices, dicts, isinstance, order. -/
namespace Br
open PySem PySem.Spec PyProof.Rows L2

/-! ### dicts -/
section
variable {K : PySem.W.Frag} {F : Hp}
theorem dgetK {H : Hp} {a : Addr} {kvs : List (Key × V)} {k : Key} (e : Rd H a (.dK kvs)) : DGet H a (kV k) (valV kvs k) := .inl ⟨kvs, k, e, rfl, rfl⟩
theorem find_some {k : Key} {p : PV} : ∀ {ks : List Key} {l : List PV} {xs : List V}, Reps K F l xs → findK k ks l = some p → ∃ v, valV (ks.zip xs) k = some v ∧ Rep K F p v
  | [], _, _, _, h => by cases h
  | c :: ks, [], _, _, h => by cases h
  | c :: ks, q :: l, _, r, h => by
    obtain ⟨x, xs, rfl, h1, h2⟩ := r
    unfold findK at h
    rw [List.zip_cons_cons]
    by_cases e : k = c
    · rw [if_pos e] at h
      cases h
      exact ⟨x, valV_pos e.symm, h1⟩
    · rw [if_neg e] at h
      obtain ⟨v, h3, h4⟩ := find_some h2 h
      exact ⟨v, by rw [valV_neg (fun z => e z.symm)]; exact h3, h4⟩
theorem find_none {k : Key} : ∀ {ks : List Key} {l : List PV} {xs : List V}, Reps K F l xs → ks.length = xs.length → findK k ks l = none → valV (ks.zip xs) k = none
  | [], _, _, _, _, h => rfl
  | c :: ks, [], _, r, hl, h => by
    rw [show _ = [] from r] at hl
    cases hl
  | c :: ks, q :: l, _, r, hl, h => by
    obtain ⟨x, xs, rfl, h1, h2⟩ := r
    unfold findK at h
    rw [List.zip_cons_cons]
    by_cases e : k = c
    · rw [if_pos e] at h
      cases h
    · rw [if_neg e] at h
      rw [valV_neg (fun z => e z.symm)]
      exact find_none h2 (by simpa using hl) h
theorem hasK_val {k : Key} : ∀ {ks : List Key} {xs : List V}, ks.length = xs.length → (valV (ks.zip xs) k).isSome = hasK k ks
  | [], _, _ => rfl
  | c :: ks, [], h => by cases h
  | c :: ks, x :: xs, h => by
    rw [List.zip_cons_cons]
    unfold hasK
    rw [List.any_cons]
    by_cases e : c = k
    · rw [valV_pos e, decide_eq_true e]
      rfl
    · rw [valV_neg e, decide_eq_false e, Bool.false_or]
      exact hasK_val (by simpa using h)
theorem hasK_iff {k : Key} {ks : List Key} : hasK k ks = true ↔ k ∈ ks := by
  unfold hasK
  rw [List.any_eq_true]
  constructor
  · rintro ⟨c, h1, h2⟩
    rw [← of_decide_eq_true h2]; exact h1
  · intro h
    exact ⟨k, h, decide_eq_true rfl⟩
theorem putKs_mem {k : Key} : ∀ {ks : List Key}, ∀ c, c ∈ putKs k ks ↔ c = k ∨ c ∈ ks
  | [], c => by simp [putKs]
  | d :: ks, c => by
    unfold putKs
    by_cases e : k = d
    · rw [if_pos e]
      constructor
      · exact .inr
      · rintro (h | h)
        · rw [h, e]; simp
        · exact h
    · rw [if_neg e, List.mem_cons, putKs_mem c, List.mem_cons]
      constructor
      · rintro (h | h | h)
        · exact .inr (.inl h)
        · exact .inl h
        · exact .inr (.inr h)
      · rintro (h | h | h)
        · exact .inr (.inl h)
        · exact .inl h
        · exact .inr (.inr h)
theorem putKs_nd {k : Key} : ∀ {ks : List Key}, ks.Nodup → (putKs k ks).Nodup
  | [], _ => by simp [putKs]
  | d :: ks, h => by
    unfold putKs
    have h' := List.nodup_cons.mp h
    by_cases e : k = d
    · rw [if_pos e]; exact h
    · rw [if_neg e]
      refine List.nodup_cons.mpr ⟨fun hm => ?_, putKs_nd h'.2⟩
      rcases (putKs_mem d).mp hm with q | q
      · exact e q.symm
      · exact h'.1 q
/-- the pairs behind d[k] = v -/
theorem put_zip {k : Key} {v : V} {p : PV} (hp : Rep K F p v) : ∀ {ks : List Key} {l : List PV} {xs : List V}, Reps K F l xs → ks.length = xs.length → ks.Nodup →
    ∃ ys, putK (ks.zip xs) k v = (putKs k ks).zip ys ∧ (putKs k ks).length = ys.length ∧ Reps K F (putVs k p ks l) ys
  | [], l, xs, r, hl, _ => by
    have h0 : xs = [] := List.eq_nil_of_length_eq_zero (by simpa using hl.symm)
    subst h0
    have h1 : l = [] := List.eq_nil_of_length_eq_zero r.length
    subst h1
    exact ⟨[v], rfl, rfl, .cons hp .nil⟩
  | c :: ks, [], _, r, hl, _ => by
    rw [show _ = [] from r] at hl
    cases hl
  | c :: ks, q :: l, _, r, hl, nd => by
    obtain ⟨x, xs, rfl, h1, h2⟩ := r
    have nd' := List.nodup_cons.mp nd
    have hl' : ks.length = xs.length := by simpa using hl
    rw [List.zip_cons_cons]
    unfold putKs putVs
    by_cases e : k = c
    · subst e
      rw [if_pos rfl, if_pos rfl]
      refine ⟨v :: xs, ?_, by simpa using hl, .cons hp h2⟩
      rw [List.zip_cons_cons]
      unfold putK
      rw [if_pos (by simp)]
      rw [List.map_cons, if_pos rfl]
      congr 1
      refine (List.map_congr_left fun z hz => ?_).trans (List.map_id _)
      have hm : z.1 ∈ ks := (List.of_mem_zip hz).1
      rw [if_neg fun w => nd'.1 (by rw [← w]; exact hm)]
      rfl
    · rw [if_neg e, if_neg e]
      obtain ⟨ys, h3, h4, h5⟩ := put_zip hp h2 hl' nd'.2
      refine ⟨x :: ys, ?_, by simp [h4], .cons h1 h5⟩
      rw [List.zip_cons_cons, ← h3]
      unfold putK
      have e' : ¬ c = k := fun z => e z.symm
      simp only [List.any_cons, decide_eq_false e', Bool.false_or, List.map_cons, if_neg e']
      split <;> simp
end

section
variable {X : Cx}
/-- d[y] as a subscript by values -/
theorem ix_dict (hu : X.A.units + 1 < cLine) : IxR X (fun x y H Q => ∃ a v, x = .ref a ∧ DGet H a y (some v) ∧ Q v H) := by
  intro value slice pins s σ H x y v u Q I rx ry h hs
  obtain ⟨a, w, rfl, g, q⟩ := h
  cases rx
  have hT := dict_typeIs I g
  unfold subscriptTail
  refine wpAny_bind ?_
  rw [getitemInPython_of_ne hT.not_modules]
  refine wpAny_bind (wpAny_specialOf hT PySem.F.slot_dict_getitem.lookup ?_)
  have fin : wpAny (model X.prog X.w) X.A (subscripted slice false (.ref a) u) (fun r s₃ => wpAny (model X.prog X.w) X.A (letTemporaryGo value (.ref a) r >>= fun _ => pure r) (EP X pins σ Q) X.xe s₃) X.xe s := by
    rw [hs]
    exact wpAny_operating (d_getItem hu I g ry fun w' s' I' rw' => wpAny_bind (wpAny_letTemporaryGo (wpAny_pure ⟨w, H, I', rw', q⟩)))
  first
    | exact wpAny_pure (wpAny_bind fin)
    | exact wpAny_bind (wpAny_pure (wpAny_bind fin))
    | exact wpAny_bind fin
theorem ir_idx (hu : X.A.units + 1 < cLine) : IxR X (R2of X.K .idx) := by
  refine IxR.pick fun pins s σ H x y Q I h => ?_
  obtain ⟨F, ps, r, e, hb, ho, q⟩ := h
  obtain ⟨p, t, rfl, h1, h2⟩ := hb.two
  simp only [opSem] at ho
  unfold idxP at ho
  split at ho
  · rename_i a b hab
    cases hab
    obtain ⟨c, xs, rfl, hc, rc⟩ := h1
    obtain ⟨v, hv, rv⟩ := atI_rep rc ho
    exact ⟨_, ix_list, c, xs, b, v, rfl, h2, hc.sql, hv, q _ _ (.any rv)⟩
  · rename_i a b hab
    cases hab
    obtain ⟨c, xs, rfl, hc, rc⟩ := h1
    obtain ⟨v, hv, rv⟩ := atI_rep rc ho
    exact ⟨_, ix_tup, c, xs, b, v, rfl, h2, Same.sqt e hc, hv, q _ _ (.any rv)⟩
  · rename_i ks vs k hab
    cases hab
    obtain ⟨c, xs, rfl, hc, hl, nd, rc⟩ := h1
    obtain ⟨v, hv, rv⟩ := find_some rc ho
    rw [show y = V.int k from h2]
    exact ⟨_, ix_dict hu, c, v, rfl, .inl ⟨_, Sum.inl k, hc, rfl, hv.symm⟩, q _ _ (.any rv)⟩
  · rename_i ks vs k hab
    cases hab
    obtain ⟨c, xs, rfl, hc, hl, nd, rc⟩ := h1
    obtain ⟨v, hv, rv⟩ := find_some rc ho
    rw [show y = V.str k from h2]
    exact ⟨_, ix_dict hu, c, v, rfl, .inl ⟨_, Sum.inr k, hc, rfl, hv.symm⟩, q _ _ (.any rv)⟩
  · cases ho
/-- y in d -/
theorem op_inD2 (hu : X.A.units + 1 < cLine) : OpR X (compareOp .In) (fun x y H Q => ∃ a o, y = .ref a ∧ DGet H a x o ∧ Q (.bl o.isSome) H) := by
  intro pins s σ H x y v u Q I rx ry h
  obtain ⟨a, o, rfl, g, q⟩ := h
  cases ry
  exact d_in hu I g rx fun s' I' => ⟨.bl _, H, I', rfl, q⟩
theorem op_ninD2 (hu : X.A.units + 1 < cLine) : OpR X (compareOp .NotIn) (fun x y H Q => ∃ a o, y = .ref a ∧ DGet H a x o ∧ Q (.bl (!o.isSome)) H) := by
  intro pins s σ H x y v u Q I rx ry h
  obtain ⟨a, o, rfl, g, q⟩ := h
  cases ry
  exact d_notIn hu I g rx fun s' I' => ⟨.bl _, H, I', rfl, q⟩
theorem any_ds (d : PyData) : ∀ l : List PV, (PV.toDs l).any (fun z => PyData.eqv z d) = l.any fun z => PyData.eqv z.toD d
  | [] => rfl
  | p :: l => by
    rw [PV.toDs, List.any_cons, List.any_cons, any_ds d l]
theorem isD_shape {l : List PV} (h : (PV.lst l).isD 60 = true) : SeqAt.shaped (.list (PV.toDs l)) = true := by
  have := shaped_d h
  unfold PV.toD at this
  exact this
theorem isD_shapeT {l : List PV} (h : (PV.tup l).isD 60 = true) : SeqAt.shaped (.tuple (PV.toDs l)) = true := by
  have := shaped_d h
  unfold PV.toD at this
  exact this
theorem op_inDT (hu : X.A.units + 65 < cLine) : OpR X (compareOp .In) (fun x y H Q => ∃ d ds, Dp X.K H x d ∧ Dp X.K H y (.tuple ds) ∧ SeqAt.shaped d = true ∧ SeqAt.shaped (.tuple ds) = true ∧ Q (.bl (ds.any fun z => PyData.eqv z d)) H) := by
  intro pins s σ H x y v u Q I rx ry h
  obtain ⟨d, ds, hd, he, sd, se, q⟩ := h
  obtain ⟨as, r1⟩ := Dp.reads I d x v hd rx
  obtain ⟨bs, r2⟩ := Dp.reads I (.tuple ds) y u he ry
  exact SeqAt.in_tuple_reads r2 r1 (SeqAt.canLay_of_shaped se) (SeqAt.canLay_of_shaped sd) (room_in_shaped sd hu) ⟨.bl _, H, I, rfl, q⟩
theorem op_notInDT (hu : X.A.units + 65 < cLine) : OpR X (compareOp .NotIn) (fun x y H Q => ∃ d ds, Dp X.K H x d ∧ Dp X.K H y (.tuple ds) ∧ SeqAt.shaped d = true ∧ SeqAt.shaped (.tuple ds) = true ∧ Q (.bl (!ds.any fun z => PyData.eqv z d)) H) := by
  intro pins s σ H x y v u Q I rx ry h
  obtain ⟨d, ds, hd, he, sd, se, q⟩ := h
  obtain ⟨as, r1⟩ := Dp.reads I d x v hd rx
  obtain ⟨bs, r2⟩ := Dp.reads I (.tuple ds) y u he ry
  exact SeqAt.notIn_tuple_reads r2 r1 (SeqAt.canLay_of_shaped se) (SeqAt.canLay_of_shaped sd) (room_in_shaped sd hu) ⟨.bl _, H, I, rfl, q⟩
theorem or_in (hu : X.A.units + 65 < cLine) : OpR X (compareOp .In) (R2of X.K .inn) := by
  refine OpR.pick fun pins s σ H x y Q I h => ?_
  obtain ⟨F, ps, r, e, hb, ho, q⟩ := h
  obtain ⟨p, t, rfl, h1, h2⟩ := hb.two
  simp only [opSem] at ho
  unfold inP at ho
  split at ho
  · rename_i a l hab
    cases hab
    split at ho
    · rename_i hd
      cases ho
      have r2 := Rep.dp 60 _ _ hd.2 (h2.rep e)
      unfold PV.toD at r2
      refine ⟨_, op_inD hu, _, _, Rep.dp 60 _ _ hd.1 (h1.rep e), r2, shaped_d hd.1, isD_shape hd.2, ?_⟩
      rw [any_ds]
      exact q _ _ .bl
    · cases ho
  · rename_i a l hab
    cases hab
    split at ho
    · rename_i hd
      cases ho
      have r2 := Rep.dp 60 _ _ hd.2 (h2.rep e)
      unfold PV.toD at r2
      refine ⟨_, op_inDT hu, _, _, Rep.dp 60 _ _ hd.1 (h1.rep e), r2, shaped_d hd.1, isD_shapeT hd.2, ?_⟩
      rw [any_ds]
      exact q _ _ .bl
    · cases ho
  · rename_i i ks vs hab
    cases hab
    cases ho
    obtain ⟨c, xs, rfl, hc, hl, nd, rc⟩ := h2
    rw [show x = V.int i from h1]
    refine ⟨_, op_inD2 (by omega), c, _, rfl, dgetK (k := Sum.inl i) hc, ?_⟩
    rw [hasK_val hl]
    exact q _ _ .bl
  · rename_i i ks vs hab
    cases hab
    cases ho
    obtain ⟨c, xs, rfl, hc, hl, nd, rc⟩ := h2
    rw [show x = V.str i from h1]
    refine ⟨_, op_inD2 (by omega), c, _, rfl, dgetK (k := Sum.inr i) hc, ?_⟩
    rw [hasK_val hl]
    exact q _ _ .bl
  · cases ho
theorem or_nin (hu : X.A.units + 65 < cLine) : OpR X (compareOp .NotIn) (R2of X.K .nin) := by
  refine OpR.pick fun pins s σ H x y Q I h => ?_
  obtain ⟨F, ps, r, e, hb, ho, q⟩ := h
  obtain ⟨p, t, rfl, h1, h2⟩ := hb.two
  simp only [opSem] at ho
  unfold ninP at ho
  split at ho
  · rename_i a l hab
    cases hab
    split at ho
    · rename_i hd
      cases ho
      have r2 := Rep.dp 60 _ _ hd.2 (h2.rep e)
      unfold PV.toD at r2
      refine ⟨_, op_notInD hu, _, _, Rep.dp 60 _ _ hd.1 (h1.rep e), r2, shaped_d hd.1, isD_shape hd.2, ?_⟩
      rw [any_ds]
      exact q _ _ .bl
    · cases ho
  · rename_i a l hab
    cases hab
    split at ho
    · rename_i hd
      cases ho
      have r2 := Rep.dp 60 _ _ hd.2 (h2.rep e)
      unfold PV.toD at r2
      refine ⟨_, op_notInDT hu, _, _, Rep.dp 60 _ _ hd.1 (h1.rep e), r2, shaped_d hd.1, isD_shapeT hd.2, ?_⟩
      rw [any_ds]
      exact q _ _ .bl
    · cases ho
  · rename_i i ks vs hab
    cases hab
    cases ho
    obtain ⟨c, xs, rfl, hc, hl, nd, rc⟩ := h2
    rw [show x = V.int i from h1]
    refine ⟨_, op_ninD2 (by omega), c, _, rfl, dgetK (k := Sum.inl i) hc, ?_⟩
    rw [hasK_val hl]
    exact q _ _ .bl
  · rename_i i ks vs hab
    cases hab
    cases ho
    obtain ⟨c, xs, rfl, hc, hl, nd, rc⟩ := h2
    rw [show x = V.str i from h1]
    refine ⟨_, op_ninD2 (by omega), c, _, rfl, dgetK (k := Sum.inr i) hc, ?_⟩
    rw [hasK_val hl]
    exact q _ _ .bl
  · cases ho

/-! ### slices -/
theorem Reps.cut {K : PySem.W.Frag} {F : Hp} {l : List PV} {xs : List V} (h : Reps K F l xs) (lo hi : Option Int) : Reps K F (cutP l lo hi) (cutV xs lo hi) := by
  unfold cutP cutV
  rw [h.length]
  exact (h.drop _).take _
theorem cutV_all {xs : List V} {lo hi : Option Int} (h : HT.sIx xs.length 0 lo = 0 ∧ HT.sIx xs.length xs.length hi = xs.length) : cutV xs lo hi = xs := by
  unfold cutV
  rw [h.1, h.2]
  simp
theorem SlR.pick {r' : V → Option Int → Option Int → Hp → VK → Prop} (h : ∀ (pins : List (Addr × Obj)) (s : Shared) (σ : L2.St) (H : Hp) (x : V) (lo hi : Option Int) (Q : VK), Inv X pins σ H s → r' x lo hi H Q → ∃ r, SlR X r ∧ r x lo hi H Q) : SlR X r' :=
  fun pins s σ H x v vl vu lo hi sl Q I rx hs pl pu q => by
    obtain ⟨r, h1, h2⟩ := h pins s σ H x lo hi Q I q
    exact h1 pins s σ H x v vl vu lo hi sl Q I rx hs pl pu h2
/-- the bounds of a slice as they are handed -/
def slA (o : Option Int) : List V := match o with
  | some i => [.int i]
  | none => []
theorem slcPart_ok {K : PySem.W.Frag} {F H : Hp} {b : Bool} {ps r : List PV} {vs : List V} {o : Option Int} (h : slcPart b ps = some (o, r)) (hb : RepBs K F H ps vs) : ∃ ws, vs = slA o ++ ws ∧ RepBs K F H r ws ∧ o.isSome = b := by
  unfold slcPart at h
  cases b with
  | true =>
    rw [if_pos rfl] at h
    split at h
    · rename_i i r' 
      cases h
      obtain ⟨v, w, rfl, h1, h2⟩ := hb
      rw [show v = V.int i from h1]
      exact ⟨w, rfl, h2, rfl⟩
    · cases h
  | false =>
    rw [if_neg Bool.false_ne_true] at h
    cases h
    exact ⟨vs, rfl, hb, rfl⟩
theorem sr_slc : SlR X (fun x lo hi H Q => rOp X.K (.slc lo.isSome hi.isSome) (x :: (slA lo ++ slA hi)) H Q) := by
  refine SlR.pick fun pins s σ H x lo hi Q I h => ?_
  obtain ⟨F, ps, r, e, hb, ho, q⟩ := h
  cases ps with
  | nil => cases hb
  | cons p ps =>
    obtain ⟨v, w, ev, h1, h2⟩ := hb
    cases ev
    simp only [opSem] at ho
    unfold slcP at ho
    dsimp only at ho
    split at ho
    · rename_i a as' ha
      obtain ⟨ws, e1, h3, e2⟩ := slcPart_ok ha h2
      split at ho
      · rename_i b hb2
        obtain ⟨ws2, e3, h4, e4⟩ := slcPart_ok hb2 h3
        have e5 : ws2 = [] := h4
        subst e5
        rw [e3, List.append_nil] at e1
        have ea : a = lo := by
          cases lo with
          | none => cases a with
            | none => rfl
            | some i => cases e2
          | some i => cases a with
            | none => cases e2
            | some j =>
              have : V.int i = V.int j := by
                have := congrArg List.head? e1
                simpa [slA] using this
              cases this
              rfl
        subst ea
        have eb : b = hi := by
          have e6 : slA hi = slA b := List.append_cancel_left e1
          cases hi with
          | none => cases b with
            | none => rfl
            | some i => cases e4
          | some i => cases b with
            | none => cases e4
            | some j => cases e6; rfl
        subst eb
        split at ho
        · rename_i l
          cases ho
          obtain ⟨c, xs, rfl, hc, rc⟩ := h1
          exact ⟨_, sl_list, c, xs, rfl, hc.sql, fun p hp => q _ _ (.lst hp (rc.cut _ _))⟩
        · rename_i l
          cases ho
          obtain ⟨c, xs, rfl, hc, rc⟩ := h1
          refine ⟨_, sl_tupA, c, xs, rfl, Same.sqt e hc, fun hw => ?_, fun hw p hp => q _ _ (.tup hp (rc.cut _ _))⟩
          have := rc.cut a b
          rw [cutV_all hw] at this
          exact q _ _ (.tup0 hc this)
        · cases ho
      · cases ho
    · cases ho
end
end Br
set_option maxHeartbeats 1000000
/-! BrD5: sums of tuples, order, isinstance, get. -/
namespace Br
open PySem PySem.Spec PyProof.Rows L2

section
variable {prog : Program} {w : World} {A : Around} {E : Value → Shared → Prop} {s : Shared} {l : Addr} {its : List Value} {ns : List Int}
theorem sum_tup {Q : Value → Shared → Prop} (hh : A.handled = none) (hl : s.heap.IsTuple l its.toArray) (hi : IntsAre its ns)
    (h : ∀ h' tk t', (∀ b o, s.heap.get? b = some o → h'.get? b = some o) → Q (.int ns.sum t') { s with heap := h', toks := tk }) : wpAny (model prog w) A (call (.builtin "sum") [.ref l]) Q E s := by
  have hlt : l < s.heap.objs.size := by obtain ⟨_, e, _⟩ := hl; exact Heap.lt_size e
  have hl2 : (s.heap.push { cls := .type "tuple_iterator", data := .fields #[.ref l, .int 0 0] }).IsTuple l its.toArray := by
    obtain ⟨o, e, r⟩ := hl
    exact ⟨o, Heap.get?_push_of_some _ e, r⟩
  refine PySem.call_sum_walkG (wpAny_pyIter_tuple hl ?_)
  refine ⟨_, _, _, _, _, _, fun i => ns.getD i 0, rfl, Walks.tuple (A := A.in1) hh s.heap.objs.size l (Nat.ne_of_lt hlt) its.toArray, ⟨⟨_, Heap.get?_push_size _ rfl, rfl, rfl⟩, hl2⟩, fun b hb => ?_, fun i v hv => ?_, fun h' tk t' hk => ?_⟩
  · show b < (s.heap.push _).objs.size
    rw [Heap.size_push]
    rcases List.mem_cons.mp hb with rfl | hb
    · exact Nat.lt_succ_self _
    · rcases List.mem_cons.mp hb with rfl | hb
      · exact Nat.lt_succ_of_lt hlt
      · cases hb
  · exact PyProof.Rows.IntsAre.int_at hi _ _ (by simpa using hv)
  · have e0 : ∀ n, n ≤ ns.length → PySem.preSum (fun i => ns.getD i 0) n = (ns.take n).sum := by
      intro n
      induction n with
      | zero => intro _; rfl
      | succ n ih =>
        intro hn
        show PySem.preSum (fun i => ns.getD i 0) n + ns.getD n 0 = _
        rw [ih (by omega), PyProof.Rows.take_sum_succ ns n (by omega)]
    have e : PySem.preSum (fun i => ns.getD i 0) its.toArray.size = ns.sum := by
      rw [List.size_toArray, hi.length, e0 _ (Nat.le_refl _), List.take_length]
    show Q (.int (PySem.preSum (fun i => ns.getD i 0) its.toArray.size) t') _
    rw [e]
    refine h h' tk t' fun b o e => hk b o (fun hm => ?_) (Heap.get?_push_of_some _ e)
    rcases List.mem_cons.mp hm with e1 | hm
    · exact absurd (e1 ▸ Heap.lt_size e) (Nat.lt_irrefl _)
    · cases hm
end

/-! ### order of tuples -/
section
variable {X : Cx} {pins : List (Addr × Obj)} {σ : L2.St} {H : Hp} {s : Shared}
def ltB (a b : PV) : Bool := (ltP a b).getD false
theorem lexAt_shift {e r : Nat → Bool} {z : Bool} : ∀ (k i : Nat), Ob.lexAt e r z (i + 1) k = Ob.lexAt (fun j => e (j + 1)) (fun j => r (j + 1)) z i k
  | 0, _ => rfl
  | k + 1, i => by
    rw [Ob.lexAt_succ, Ob.lexAt_succ, lexAt_shift k (i + 1)]
theorem lexAt_congr {e e' r r' : Nat → Bool} {z : Bool} : ∀ (k i : Nat), (∀ j, e j = e' j) → (∀ j, r j = r' j) → Ob.lexAt e r z i k = Ob.lexAt e' r' z i k
  | 0, _, _, _ => rfl
  | k + 1, i, h1, h2 => by
    rw [Ob.lexAt_succ, Ob.lexAt_succ, lexAt_congr k (i + 1) h1 h2, h1, h2]
/-- each unequal pair can be compared -/
def cmpOk : List PV → List PV → Prop
  | x :: xs, y :: ys => (eqP x y = true ∨ (ltP x y).isSome = true) ∧ cmpOk xs ys
  | _, _ => True
theorem ltPs_cons {x y : PV} {xs ys : List PV} {b : Bool} (h : ltPs (x :: xs) (y :: ys) = some b) : ∃ r, ltPs xs ys = some r ∧ (if eqP x y = true then some r else ltP x y) = some b := by
  unfold ltPs at h
  split at h
  · rename_i r hr
    exact ⟨r, hr, h⟩
  · cases h
theorem ltPs_cmp : ∀ {l m : List PV} {b : Bool}, ltPs l m = some b → cmpOk l m
  | [], _, _, _ => trivial
  | _ :: _, [], _, _ => trivial
  | x :: xs, y :: ys, b, h => by
    obtain ⟨r, h1, h2⟩ := ltPs_cons h
    refine ⟨?_, ltPs_cmp h1⟩
    by_cases e : eqP x y = true
    · exact .inl e
    · rw [if_neg e] at h2
      exact .inr (by rw [h2]; rfl)
theorem ltPs_lex : ∀ {l m : List PV} {b : Bool}, ltPs l m = some b → Ob.lexAt (fun j => eqP (l.getD j .non) (m.getD j .non)) (fun j => ltB (l.getD j .non) (m.getD j .non)) (decide (l.length < m.length)) 0 (min l.length m.length) = b
  | [], [], b, h => by cases h; rfl
  | [], _ :: _, b, h => by cases h; simp [Ob.lexAt_zero]
  | _ :: _, [], b, h => by cases h; simp [Ob.lexAt_zero]
  | x :: xs, y :: ys, b, h => by
    obtain ⟨r, h1, h2⟩ := ltPs_cons h
    rw [show min (x :: xs).length (y :: ys).length = min xs.length ys.length + 1 by simp only [List.length_cons]; omega, Ob.lexAt_succ]
    by_cases e : eqP x y = true
    · rw [if_pos e] at h2
      cases h2
      rw [if_pos (by simpa using e), lexAt_shift]
      have := ltPs_lex h1
      simpa using this
    · rw [if_neg e] at h2
      rw [if_neg (by simpa using e)]
      simp [ltB, h2]
mutual
theorem lt_run (I : Inv X pins σ H s) : ∀ (p q : PV) (n : Nat) (A : Around) (x y : V) (u v : Value) (b : Bool), A.units + n + 70 < cLine → p.isD n = true → q.isD n = true → ltP p q = some b → Rep X.K H p x → Rep X.K H q y → RelV x u → RelV y v → Ob.RcOp .Lt A s u v b
  | .int a, .int c, _, A, x, y, u, v, b, _, _, _, h, h1, h2, r1, r2 => by
    cases h
    rw [show x = V.int a from h1] at r1
    rw [show y = V.int c from h2] at r2
    obtain ⟨t, rfl⟩ := r1
    obtain ⟨t', rfl⟩ := r2
    exact Ob.RcOp.lt_int _ _ _ _
  | .tup l, .tup m, n, A, x, y, u, v, b, hu, d1, d2, h, h1, h2, r1, r2 => by
    have h : ltPs l m = some b := h
    obtain ⟨a, xs, rfl, ha, ra⟩ := h1
    obtain ⟨c, ys, rfl, hc, rc⟩ := h2
    cases r1
    cases r2
    obtain ⟨its, v1, t1, z1⟩ := I.tuple ha
    obtain ⟨its2, v2, t2, z2⟩ := I.tuple hc
    have e1 := v1.length
    have e2 := v2.length
    have e3 := ra.length
    have e4 := rc.length
    cases n with
    | zero => simp [PV.isD] at d1
    | succ n =>
      unfold PV.isD at d1 d2
      have R := Ob.RcOp.tuples_lt (A := A) (s := s) (e := fun j => eqP (l.getD j .non) (m.getD j .non)) (r := fun j => ltB (l.getD j .non) (m.getD j .non)) t1 t2 (by omega)
        (fun j h3 h4 => ?_) (fun j h3 h4 h5 => ?_)
      · rw [List.size_toArray, List.size_toArray, ← e1, ← e2, ← e3, ← e4, ltPs_lex h] at R
        exact R
      · simp at h3 h4
        have hj : j < l.length := by omega
        have hj2 : j < m.length := by omega
        obtain ⟨x1, g1, g2⟩ := ra.get (List.getElem?_eq_getElem hj)
        obtain ⟨y1, k1, k2⟩ := rc.get (List.getElem?_eq_getElem hj2)
        obtain ⟨u1, g3, g4⟩ := v1.get g1
        obtain ⟨w1, k3, k4⟩ := v2.get k1
        have f1 := List.all_eq_true.mp d1 _ (List.getElem_mem hj)
        have f2 := List.all_eq_true.mp d2 _ (List.getElem_mem hj2)
        obtain ⟨as, q1⟩ := Dp.reads I _ _ _ (Rep.dp n _ _ f1 g2) g4
        obtain ⟨bs, q2⟩ := Dp.reads I _ _ _ (Rep.dp n _ _ f2 k2) k4
        have f3 := depth_d n _ f1
        rw [show its.toArray[j] = u1 by
          have := List.getElem?_eq_some_iff.mp g3
          simpa using this.2, show its2.toArray[j] = w1 by
          have := List.getElem?_eq_some_iff.mp k3
          simpa using this.2]
        rw [show l.getD j .non = l[j] by simp [List.getD, hj], show m.getD j .non = m[j] by simp [List.getD, hj2]]
        exact SeqAt.eqAt_reads _ _ _ _ _ _ _ _ q1 q2 (canLay_d n _ f1) (canLay_d n _ f2) (by show A.units + 1 + _ < _; omega)
      · simp at h3 h4
        exact lt_runs I l m n A.in1 xs ys its its2 (by show A.units + 1 + n + 70 < _; omega) d1 d2 (ltPs_cmp h) ra rc v1 v2 j (by omega) (by omega) h5
  | .non, _, _, _, _, _, _, _, _, _, _, _, h, _, _, _, _ => by cases h
  | .bl _, _, _, _, _, _, _, _, _, _, _, _, h, _, _, _, _ => by cases h
  | .str _, _, _, _, _, _, _, _, _, _, _, _, h, _, _, _, _ => by cases h
  | .ty _, _, _, _, _, _, _, _, _, _, _, _, h, _, _, _, _ => by cases h
  | .exc _, _, _, _, _, _, _, _, _, _, _, _, h, _, _, _, _ => by cases h
  | .lst _, _, _, _, _, _, _, _, _, _, _, _, h, _, _, _, _ => by cases h
  | .xt _, _, _, _, _, _, _, _, _, _, _, _, h, _, _, _, _ => by cases h
  | .dK _ _, _, _, _, _, _, _, _, _, _, _, _, h, _, _, _, _ => by cases h
  | .dT _ _, _, _, _, _, _, _, _, _, _, _, _, h, _, _, _, _ => by cases h
  | .int _, .non, _, _, _, _, _, _, _, _, _, _, h, _, _, _, _ => by cases h
  | .int _, .bl _, _, _, _, _, _, _, _, _, _, _, h, _, _, _, _ => by cases h
  | .int _, .str _, _, _, _, _, _, _, _, _, _, _, h, _, _, _, _ => by cases h
  | .int _, .ty _, _, _, _, _, _, _, _, _, _, _, h, _, _, _, _ => by cases h
  | .int _, .exc _, _, _, _, _, _, _, _, _, _, _, h, _, _, _, _ => by cases h
  | .int _, .lst _, _, _, _, _, _, _, _, _, _, _, h, _, _, _, _ => by cases h
  | .int _, .xt _, _, _, _, _, _, _, _, _, _, _, h, _, _, _, _ => by cases h
  | .int _, .tup _, _, _, _, _, _, _, _, _, _, _, h, _, _, _, _ => by cases h
  | .int _, .dK _ _, _, _, _, _, _, _, _, _, _, _, h, _, _, _, _ => by cases h
  | .int _, .dT _ _, _, _, _, _, _, _, _, _, _, _, h, _, _, _, _ => by cases h
  | .tup _, .non, _, _, _, _, _, _, _, _, _, _, h, _, _, _, _ => by cases h
  | .tup _, .bl _, _, _, _, _, _, _, _, _, _, _, h, _, _, _, _ => by cases h
  | .tup _, .str _, _, _, _, _, _, _, _, _, _, _, h, _, _, _, _ => by cases h
  | .tup _, .ty _, _, _, _, _, _, _, _, _, _, _, h, _, _, _, _ => by cases h
  | .tup _, .exc _, _, _, _, _, _, _, _, _, _, _, h, _, _, _, _ => by cases h
  | .tup _, .lst _, _, _, _, _, _, _, _, _, _, _, h, _, _, _, _ => by cases h
  | .tup _, .xt _, _, _, _, _, _, _, _, _, _, _, h, _, _, _, _ => by cases h
  | .tup _, .int _, _, _, _, _, _, _, _, _, _, _, h, _, _, _, _ => by cases h
  | .tup _, .dK _ _, _, _, _, _, _, _, _, _, _, _, h, _, _, _, _ => by cases h
  | .tup _, .dT _ _, _, _, _, _, _, _, _, _, _, _, h, _, _, _, _ => by cases h
theorem lt_runs (I : Inv X pins σ H s) : ∀ (l m : List PV) (n : Nat) (A : Around) (xs ys : List V) (us vs : List Value), A.units + n + 70 < cLine → l.all (PV.isD n) = true → m.all (PV.isD n) = true → cmpOk l m → Reps X.K H l xs → Reps X.K H m ys → Vals xs us → Vals ys vs →
    ∀ j, (h1 : j < us.length) → (h2 : j < vs.length) → eqP (l.getD j .non) (m.getD j .non) = false → Ob.RcOp .Lt A s us[j] vs[j] (ltB (l.getD j .non) (m.getD j .non))
  | [], _, _, _, xs, _, us, _, _, _, _, _, r, _, v1, _, j, h1, _, _ => by
    rw [show xs = [] from r] at v1
    cases v1
    exact absurd h1 (Nat.not_lt_zero j)
  | _ :: _, [], _, _, _, ys, _, vs, _, _, _, _, _, r, _, v2, j, _, h2, _ => by
    rw [show ys = [] from r] at v2
    cases v2
    exact absurd h2 (Nat.not_lt_zero j)
  | p :: l, q :: m, n, A, xs, ys, us, vs, hu, d1, d2, ok, r1, r2, v1, v2, j, h1, h2, ne => by
    obtain ⟨x, xs, rfl, a1, a2⟩ := r1
    obtain ⟨y, ys, rfl, b1, b2⟩ := r2
    rw [List.all_cons, Bool.and_eq_true] at d1 d2
    cases v1 with
    | cons c1 c2 =>
      cases v2 with
      | cons k1 k2 =>
        unfold cmpOk at ok
        cases j with
        | zero =>
          have ne' : eqP p q = false := by simpa using ne
          have ok1 := ok.1
          rw [ne'] at ok1
          obtain ⟨b, hb⟩ := Option.isSome_iff_exists.mp (ok1.resolve_left Bool.false_ne_true)
          have := lt_run I p q n A x y _ _ b hu d1.1 d2.1 hb a1 b1 c1 k1
          simpa [ltB, hb] using this
        | succ j =>
          have := lt_runs I l m n A xs ys _ _ hu d1.2 d2.2 ok.2 a2 b2 c2 k2 j (by simpa using h1) (by simpa using h2) (by simpa using ne)
          simpa using this
end
end
section
variable {X : Cx}
theorem or_lt (hu : X.A.units + 131 < cLine) : OpR X (compareOp .Lt) (R2of X.K .lt) := by
  intro pins s σ H x y v u Q I rx ry h
  obtain ⟨F, ps, r, e, hb, ho, q⟩ := h
  obtain ⟨p, t, rfl, h1, h2⟩ := hb.two
  simp only [opSem] at ho
  unfold ltOP at ho
  split at ho
  · rename_i a b hab
    cases hab
    cases ho
    exact op_lt pins s σ H x y v u Q I rx ry ⟨a, b, h1, h2, q _ _ .bl⟩
  · rename_i a b hab
    cases hab
    split at ho
    · rename_i hd
      obtain ⟨c, hc, rfl⟩ := Option.map_eq_some_iff.mp ho
      have R := lt_run I (.tup a) (.tup b) 60 X.A x y v u c (by omega) hd.1 hd.2 hc (h1.rep e) (h2.rep e) rx ry
      have z : wpAny (model X.prog X.w) X.A (compareOp .Lt v u) (EP X pins σ Q) X.xe s := R X.prog X.w X.xe (EP X pins σ Q) ⟨.bl _, H, I, rfl, q _ _ .bl⟩
      exact z
    · cases ho
  · cases ho
theorem cr_sumT (hc : X.calm = true) : CallR X (.builtin "sum") (fun vs H Q => ∃ (a : Addr) (ns : List Int), vs = [V.ref a] ∧ SqT X.K H a (ns.map V.int) ∧ Q (.int ns.sum) H) := by
  intro pins s σ H vs us Q I r h
  obtain ⟨a, ns, rfl, hs, q⟩ := h
  obtain ⟨its, rv, hl, _⟩ := I.tuple hs
  rw [Vals.ref1 r]
  exact sum_tup (I.ok.hd hc) hl rv.ints fun h' tk t' hk => ⟨.int _, H, I.kept hk, ⟨_, rfl⟩, q⟩
theorem cr_sumA (hc : X.calm = true) : CallR X (.builtin "sum") (RCof X.K .sum) := by
  refine CallR.pick fun pins s σ H xs Q I h => ?_
  obtain ⟨x, F, p, r, rfl, e, h1, ho, q⟩ := rOp_one h (len1 rfl fun a b c => by cases a <;> rfl)
  simp only [opSem] at ho
  unfold sumP at ho
  split at ho
  · rename_i l hl
    cases hl
    obtain ⟨ns, hn, rfl⟩ := Option.map_eq_some_iff.mp ho
    rw [intsOf_eq hn] at h1
    obtain ⟨c, xs, rfl, hc2, rc⟩ := h1
    rw [rc.ints] at hc2
    exact ⟨_, cr_sum hc, c, ns, rfl, hc2.sql, q _ _ .int⟩
  · rename_i l hl
    cases hl
    obtain ⟨ns, hn, rfl⟩ := Option.map_eq_some_iff.mp ho
    rw [intsOf_eq hn] at h1
    obtain ⟨c, xs, rfl, hc2, rc⟩ := h1
    rw [rc.ints] at hc2
    exact ⟨_, cr_sumT hc, c, ns, rfl, Same.sqt e hc2, q _ _ .int⟩
  · cases ho
/-! ### isinstance -/
theorem tyx_of {K : PySem.W.Frag} {F H : Hp} {p : PV} {x : V} {t : String} (e : Same F H) (h : RepB K F H p x) (ht : tyName p = some t) : TyX K H x (.type t) := by
  cases p with
  | non => cases ht; rw [show x = V.non from h]; exact .base .non
  | bl b => cases ht; rw [show x = V.bl b from h]; exact .base (.bl b)
  | int i => cases ht; rw [show x = V.int i from h]; exact .base (.int i)
  | str y => cases ht; rw [show x = V.str y from h]; exact .base (.str y)
  | lst l =>
    cases ht
    obtain ⟨a, xs, rfl, (h1 | ⟨o, h1⟩) | ⟨its, n, h1, _, _⟩, _⟩ := h
    · exact .base (.lst h1)
    · exact .base (.frz h1)
    · exact .kList h1 rfl
  | tup l =>
    cases ht
    obtain ⟨a, xs, rfl, h1, _⟩ := h
    rcases h1 with (h1 | ⟨o, h1⟩) | ⟨o, its, n, h1, h2, _⟩
    · exact .base (.tup (e _ _ h1))
    · exact .fTuple (e _ _ h1)
    · exact .kTuple h1 h2
  | xt l => cases ht; obtain ⟨a, xs, o, rfl, h1, _⟩ := h; exact .fTuple (e _ _ h1)
  | dK ks l => cases ht; obtain ⟨a, xs, rfl, h1 | ⟨o, h1⟩, _⟩ := h <;> first | exact .base (.dK h1) | exact .fDict h1
  | dT ks l => cases ht; obtain ⟨a, xs, rfl, h1, _⟩ := h; exact .base (.dT h1)
  | ty n => cases ht
  | exc c => cases ht
theorem kitAny_of {K : PySem.W.Frag} {p : PV} {t : String} (ht : tyName p = some t) : ∀ {ts : List String} {b : Bool}, isTys ts p = some b → PySem.W.kitAny K (.type t) (ts.map Value.type) = some b
  | [], b, h => by cases h; exact kitAny_nil
  | c :: ts, b, h => by
    unfold isTys at h
    have e : isTyP c p = kitB t c := by unfold isTyP; rw [ht]
    rw [e] at h
    split at h
    · rename_i h1
      cases h
      exact kitAny_cons (kit_ty h1) (fun z => nomatch z) fun _ => rfl
    · rename_i h1
      exact kitAny_cons (kit_ty h1) (fun _ => kitAny_of ht h) fun z => nomatch z
    · cases h
theorem paired_cls : ∀ ts : List String, Paired ClsV (ts.map V.ty) (ts.map Value.type)
  | [] => .nil
  | t :: ts => .cons (.ty t) (paired_cls ts)
theorem isTys_ty {ts : List String} {p : PV} {b : Bool} (h : isTys ts p = some b) (hn : ts ≠ []) : ∃ t, tyName p = some t := by
  cases ts with
  | nil => exact absurd rfl hn
  | cons c ts =>
    unfold isTys at h
    cases e : tyName p with
    | some t => exact ⟨t, rfl⟩
    | none => rw [show isTyP c p = none by unfold isTyP; rw [e]] at h; cases h
theorem cr_isTy1 {c : String} : CallR X (.builtin "isinstance") (fun xs H Q => ∃ x, xs = [x, .ty c] ∧ rOp X.K (.isTy [c]) [x] H Q) := by
  refine CallR.imp call_isi fun xs H Q h => ?_
  obtain ⟨x, rfl, h⟩ := h
  obtain ⟨F, ps, r, e, hb, ho, q⟩ := h
  obtain ⟨p, rfl, h1⟩ := hb.one
  simp only [opSem, isTyOP] at ho
  obtain ⟨b, hb, rfl⟩ := Option.map_eq_some_iff.mp ho
  obtain ⟨t, ht⟩ := isTys_ty hb (by simp)
  refine ⟨x, .ty c, _, _, b, rfl, .ty c, tyx_of e h1 ht, ?_, q _ _ .bl⟩
  unfold isTys at hb
  have e2 : isTyP c p = kitB t c := by unfold isTyP; rw [ht]
  rw [e2] at hb
  split at hb
  · rename_i h2; cases hb; exact kit_ty h2
  · rename_i h2; cases hb; exact kit_ty h2
  · cases hb
theorem cr_isTyN {cs : List String} (hn : cs ≠ []) : CallR X (.builtin "isinstance") (fun xs H Q => ∃ x tp, xs = [x, .ref tp] ∧ H tp = some (.tup (cs.map V.ty)) ∧ rOp X.K (.isTy cs) [x] H Q) := by
  refine CallR.imp call_isiT fun xs H Q h => ?_
  obtain ⟨x, tp, rfl, hT, h⟩ := h
  obtain ⟨F, ps, r, e, hb, ho, q⟩ := h
  obtain ⟨p, rfl, h1⟩ := hb.one
  simp only [opSem, isTyOP] at ho
  obtain ⟨b, hb, rfl⟩ := Option.map_eq_some_iff.mp ho
  obtain ⟨t, ht⟩ := isTys_ty hb hn
  exact ⟨x, tp, _, _, _, b, rfl, hT, paired_cls cs, tyx_of e h1 ht, kitAny_of ht hb, q _ _ .bl⟩
/-- d.get(k, x) -/
theorem dget_ok {K : PySem.W.Frag} {H : Hp} {x y z : V} {Q : VK} (h : rOp K .dget [x, y, z] H Q) : ∃ a o, x = .ref a ∧ DGet H a y o ∧ Q (o.getD z) H := by
  obtain ⟨F, ps, r, e, hb, ho, q⟩ := h
  obtain ⟨p, t, d, rfl, h1, h2, h3⟩ := hb.three
  simp only [opSem] at ho
  unfold dgetP at ho
  split at ho
  · rename_i ks vs k d' hab
    cases hab
    cases ho
    obtain ⟨c, xs, rfl, hc, hl, nd, rc⟩ := h1
    rw [show y = V.int k from h2]
    refine ⟨c, _, rfl, dgetK (k := Sum.inl k) hc, ?_⟩
    cases hf : findK (Sum.inl k) ks vs with
    | some p =>
      obtain ⟨v, hv, rv⟩ := find_some rc hf
      rw [hv]
      rw [hf] at q
      exact q _ _ (.any rv)
    | none =>
      rw [find_none rc hl hf]
      rw [hf] at q
      rw [show z = V.int d' from h3]
      exact q _ _ .int
  · rename_i ks vs k d' hab
    cases hab
    cases ho
    obtain ⟨c, xs, rfl, hc, hl, nd, rc⟩ := h1
    rw [show y = V.str k from h2]
    refine ⟨c, _, rfl, dgetK (k := Sum.inr k) hc, ?_⟩
    cases hf : findK (Sum.inr k) ks vs with
    | some p =>
      obtain ⟨v, hv, rv⟩ := find_some rc hf
      rw [hv]
      rw [hf] at q
      exact q _ _ (.any rv)
    | none =>
      rw [find_none rc hl hf]
      rw [hf] at q
      rw [show z = V.int d' from h3]
      exact q _ _ .int
  · cases ho
end
end Br
set_option maxHeartbeats 1000000
/-! BrE1: calls. -/
namespace Br
open PySem PySem.Spec PyProof.Rows L2

/-- a def's promise by what it computes -/
def spOf (K : PySem.W.Frag) (g : List LV → CR) : Sp := fun vs H Q E => ∃ F ls fp, SR ⟨K, H, F, fp⟩ F (ls.map some) (vs.map some) H ∧ match g ls with
  | .ok r ls' => ∀ v H' F', SR ⟨K, H, F, fp⟩ F' (some r :: maskL ls ls') (some v :: vs.map some) H' → Q v H'
  | .ex c ls' => ∀ H' F', SR ⟨K, H, F, fp⟩ F' (maskL ls ls') (vs.map some) H' → E (.ref (He.ga K c)) none H'
  | .st => False

theorem maskL_len : ∀ {ls ls' : List LV}, ls'.length = ls.length → (maskL ls ls').length = ls.length
  | [], [], _ => rfl
  | [], _ :: _, h => by cases h
  | l :: ls, [], h => by cases h
  | l :: ls, l' :: ls', h => by
    have := maskL_len (ls := ls) (ls' := ls') (by simpa using h)
    simp [maskL, this]
theorem maskL_get : ∀ {ls ls' : List LV} {k : Nat} {o : Option LV}, (maskL ls ls')[k]? = some o → ∃ l l', ls[k]? = some l ∧ ls'[k]? = some l' ∧ o = if l.isFro = true then none else some l'
  | [], _, k, o, h => by simp [maskL] at h
  | l :: ls, [], k, o, h => by simp [maskL] at h
  | l :: ls, l' :: ls', 0, o, h => by
    simp only [maskL, List.getElem?_cons_zero, Option.some.injEq] at h
    exact ⟨l, l', rfl, rfl, h.symm⟩
  | l :: ls, l' :: ls', k + 1, o, h => by
    have := maskL_get (ls := ls) (ls' := ls') (k := k) (o := o) (by simpa [maskL] using h)
    simpa using this

section
variable {C : Cb} {F H : Hp} {ρ : Env} {σ : L2.St}
/-- the addresses that the handed-on names own -/
def fpOf (fp : Nat → List Addr) : List AV → List Addr
  | [] => []
  | .val _ :: as => fpOf fp as
  | .ref i :: as => fp i ++ fpOf fp as
theorem mem_fpOf {fp : Nat → List Addr} {a : Addr} : ∀ {as : List AV}, a ∈ fpOf fp as ↔ ∃ i ∈ AV.refs as, a ∈ fp i
  | [] => by simp [fpOf, AV.refs]
  | .val _ :: as => by
    rw [show fpOf fp (.val _ :: as) = fpOf fp as from rfl, mem_fpOf, show AV.refs (.val _ :: as) = AV.refs as from rfl]
  | .ref i :: as => by
    rw [show fpOf fp (.ref i :: as) = fp i ++ fpOf fp as from rfl, List.mem_append, mem_fpOf, show AV.refs (.ref i :: as) = i :: AV.refs as from rfl]
    constructor
    · rintro (h | ⟨j, h1, h2⟩)
      · exact ⟨i, by simp, h⟩
      · exact ⟨j, by simp [h1], h2⟩
    · rintro ⟨j, h1, h2⟩
      rcases List.mem_cons.mp h1 with rfl | h1
      · exact .inl h2
      · exact .inr ⟨j, h1, h2⟩
/-- the k-th argument's address list -/
def fpAt (fp : Nat → List Addr) (as : List AV) (k : Nat) : List Addr := match as[k]? with
  | some (AV.ref i) => fp i
  | _ => []
theorem lvs_get : ∀ {as : List AV} {ls : List LV} {k : Nat} {l : LV}, AV.lvs ρ as = some ls → ls[k]? = some l → ∃ a, as[k]? = some a ∧ a.lv ρ = some l
  | [], ls, k, l, h, e => by cases h; simp at e
  | a :: as, ls, k, l, h, e => by
    unfold AV.lvs at h
    split at h
    · rename_i p ps h1 h2
      cases h
      cases k with
      | zero => simp at e; subst e; exact ⟨a, rfl, h1⟩
      | succ k => simpa using lvs_get h2 (by simpa using e)
    · cases h
theorem lvs_len : ∀ {as : List AV} {ls : List LV}, AV.lvs ρ as = some ls → ls.length = as.length
  | [], ls, h => by cases h; rfl
  | a :: as, ls, h => by
    unfold AV.lvs at h
    split at h
    · rename_i p ps h1 h2
      cases h
      simp [lvs_len h2]
    · cases h
theorem AVRs.get {K : PySem.W.Frag} : ∀ {as : List AV} {vs : List V} {k : Nat} {a : AV}, AVRs K F σ as vs → as[k]? = some a → ∃ v, vs[k]? = some v ∧ AVR K F σ a v
  | [], vs, k, a, h, e => by simp at e
  | b :: as, vs, k, a, h, e => by
    obtain ⟨v, r, rfl, h2, h3⟩ := h
    cases k with
    | zero => simp at e; subst e; exact ⟨v, rfl, h2⟩
    | succ k => simpa using AVRs.get h3 (by simpa using e)
theorem refs_ix : ∀ {as : List AV} {k : Nat} {i : Nat}, as[k]? = some (AV.ref i) → i ∈ AV.refs as
  | [], k, i, h => by simp at h
  | .val _ :: as, 0, i, h => by simp at h
  | .ref j :: as, 0, i, h => by simp at h; subst h; simp [AV.refs]
  | .val _ :: as, k + 1, i, h => refs_ix (as := as) (by simpa using h)
  | .ref j :: as, k + 1, i, h => by
    have := refs_ix (as := as) (k := k) (i := i) (by simpa using h)
    simp [AV.refs, this]
theorem avAt : ∀ {as : List AV} {i : Nat}, i ∈ AV.refs as → ∃ k : Nat, as[k]? = some (AV.ref i)
  | [], i, h => by simp [AV.refs] at h
  | .val _ :: as, i, h => by
    obtain ⟨k, hk⟩ := avAt (as := as) h
    exact ⟨k + 1, by simpa using hk⟩
  | .ref j :: as, i, h => by
    rcases List.mem_cons.mp (show i ∈ j :: AV.refs as from h) with rfl | h
    · exact ⟨0, rfl⟩
    · obtain ⟨k, hk⟩ := avAt (as := as) h
      exact ⟨k + 1, by simpa using hk⟩
theorem refs_inj : ∀ {as : List AV} {k m : Nat} {i : Nat}, (AV.refs as).Nodup → as[k]? = some (AV.ref i) → as[m]? = some (AV.ref i) → k = m
  | [], k, m, i, _, h, _ => by simp at h
  | .val _ :: as, 0, m, i, _, h, _ => by simp at h
  | .val _ :: as, k + 1, 0, i, _, _, h => by simp at h
  | .val _ :: as, k + 1, m + 1, i, nd, h, h' => congrArg (· + 1) (refs_inj (as := as) nd (by simpa using h) (by simpa using h'))
  | .ref j :: as, 0, 0, i, nd, h, h' => rfl
  | .ref j :: as, 0, m + 1, i, nd, h, h' => by
    simp at h
    subst h
    exact absurd (refs_ix (as := as) (by simpa using h')) (List.nodup_cons.mp nd).1
  | .ref j :: as, k + 1, 0, i, nd, h, h' => by
    simp at h'
    subst h'
    exact absurd (refs_ix (as := as) (by simpa using h)) (List.nodup_cons.mp nd).1
  | .ref j :: as, k + 1, m + 1, i, nd, h, h' => congrArg (· + 1) (refs_inj (as := as) (List.nodup_cons.mp nd).2 (by simpa using h) (by simpa using h'))
/-- a slot behind a call -/
theorem back_get : ∀ {as : List AV} {ms ρ : Env} {j : Nat} {m : LV}, (AV.refs as).Nodup → as.length = ms.length → (AV.back ρ as ms)[j]? = some (some m) →
    (ρ[j]? = some (some m) ∧ ∀ k : Nat, as[k]? = some (AV.ref j) → ms[k]? = some none) ∨ (∃ k : Nat, as[k]? = some (AV.ref j) ∧ ms[k]? = some (some m))
  | [], ms, ρ, j, m, _, _, h => .inl ⟨by simpa [AV.back] using h, fun k hk => by simp at hk⟩
  | _ :: as, [], ρ, j, m, nd, hl, h => by cases hl
  | .val p :: as, o :: ms, ρ, j, m, nd, hl, h => by
    have h' : (AV.back ρ as ms)[j]? = some (some m) := by cases o <;> exact h
    rcases back_get (as := as) nd (by simpa using hl) h' with ⟨q1, q2⟩ | ⟨k, h1, h2⟩
    · refine .inl ⟨q1, fun k hk => ?_⟩
      cases k with
      | zero => simp at hk
      | succ k => simpa using q2 k (by simpa using hk)
    · exact .inr ⟨k + 1, by simpa using h1, by simpa using h2⟩
  | .ref i :: as, none :: ms, ρ, j, m, nd, hl, h => by
    have nd' := List.nodup_cons.mp (show (i :: AV.refs as).Nodup from nd)
    rcases back_get (as := as) nd'.2 (by simpa using hl) (show (AV.back ρ as ms)[j]? = some (some m) from h) with ⟨q1, q2⟩ | ⟨k, h1, h2⟩
    · refine .inl ⟨q1, fun k hk => ?_⟩
      cases k with
      | zero => rfl
      | succ k => simpa using q2 k (by simpa using hk)
    · exact .inr ⟨k + 1, by simpa using h1, by simpa using h2⟩
  | .ref i :: as, some l :: ms, ρ, j, m, nd, hl, h => by
    have nd' := List.nodup_cons.mp (show (i :: AV.refs as).Nodup from nd)
    rcases back_get (as := as) nd'.2 (by simpa using hl) (show (AV.back (ρ.set i (some l)) as ms)[j]? = some (some m) from h) with ⟨q1, q2⟩ | ⟨k, h1, h2⟩
    · rcases set_get q1 with ⟨rfl, z, _⟩ | ⟨z, q1⟩
      · cases z
        exact .inr ⟨0, rfl, rfl⟩
      · refine .inl ⟨q1, fun k hk => ?_⟩
        cases k with
        | zero => simp at hk; exact absurd hk z
        | succ k => simpa using q2 k (by simpa using hk)
    · exact .inr ⟨k + 1, by simpa using h1, by simpa using h2⟩
theorem back_len : ∀ (as : List AV) (ms ρ : Env), (AV.back ρ as ms).length = ρ.length
  | [], ms, _ => by cases ms <;> rfl
  | .val _ :: as, [], _ => rfl
  | .val _ :: as, o :: ms, ρ => by cases o <;> exact back_len as ms ρ
  | .ref i :: as, [], _ => rfl
  | .ref i :: as, none :: ms, ρ => back_len as ms ρ
  | .ref i :: as, some l :: ms, ρ => by
    show (AV.back (ρ.set i (some l)) as ms).length = _
    rw [back_len as ms _, List.length_set]
theorem lv_ref {i : Nat} {l : LV} (h : AV.lv ρ (.ref i) = some l) : ρ[i]? = some (some l) := by
  unfold AV.lv at h
  dsimp only at h
  split at h
  · rename_i l' e; cases h; exact e
  · cases h
/-- INTO a call and out of it -/
theorem call_io (s : SR C F ρ σ H) {as : List AV} {vs : List V} {ls : List LV} (r : AVRs C.K F σ as vs) (hl : AV.lvs ρ as = some ls) (nd : (AV.refs as).Nodup) :
    ∃ fp, SR ⟨C.K, H, F, fp⟩ F (ls.map some) (vs.map some) H ∧
      (∀ l v ls' F' H', SR ⟨C.K, H, F, fp⟩ F' (some l :: maskL ls ls') (some v :: vs.map some) H' → ls'.length = ls.length → SR C F' (some l :: AV.back ρ as (maskL ls ls')) (some v :: σ) H') := by
  obtain ⟨fp, h1, h2⟩ := s.own
  have hal := lvs_len hl
  have hlen : ls.length = vs.length := hal.trans r.length
  have info : ∀ (k : Nat) (l : LV), ls[k]? = some l → ∃ v, vs[k]? = some v ∧ RepL C.K F H l v (fpAt fp as k) ∧ (fpAt fp as k).Nodup ∧ (∀ a ∈ fpAt fp as k, F a = none ∧ C.O a) ∧ (∀ i, as[k]? = some (AV.ref i) → σ[i]? = some (some v) ∧ ρ[i]? = some (some l)) := fun k l e => by
    obtain ⟨a, ha, hla⟩ := lvs_get hl e
    obtain ⟨v, hv, rv⟩ := r.get ha
    refine ⟨v, hv, ?_⟩
    cases a with
    | val p =>
      cases hla
      have e1 : fpAt fp as k = [] := by unfold fpAt; rw [ha]
      rw [e1]
      exact ⟨⟨rv, rfl⟩, List.nodup_nil, (fun a h => absurd h (by simp)), fun i z => by rw [ha] at z; cases z⟩
    | ref i =>
      have hl' := lv_ref hla
      obtain ⟨v', hv', rl, ndp, q⟩ := h1 i l hl'
      have rv' : σ[i]? = some (some v) := rv
      rw [rv'] at hv'
      cases hv'
      have e1 : fpAt fp as k = fp i := by unfold fpAt; rw [ha]
      rw [e1]
      exact ⟨rl, ndp, q, fun j z => by rw [ha] at z; cases z; exact ⟨rv', hl'⟩⟩
  have atk : ∀ (k i : Nat), as[k]? = some (AV.ref i) → ∃ l, ls[k]? = some l ∧ ρ[i]? = some (some l) := fun k i hk => by
    have hkl : k < ls.length := by rw [hal]; exact (List.getElem?_eq_some_iff.mp hk).1
    obtain ⟨_, _, _, _, _, f⟩ := info k _ (List.getElem?_eq_getElem hkl)
    exact ⟨_, List.getElem?_eq_getElem hkl, (f i hk).2⟩
  have inFp : ∀ k a, a ∈ fpAt fp as k → a ∈ fpOf fp as := fun k a ha => by
    unfold fpAt at ha
    split at ha
    · rename_i i e
      exact mem_fpOf.mpr ⟨i, refs_ix e, ha⟩
    · cases ha
  refine ⟨fpOf fp as, ⟨s.le, Same.refl F, fun a o h _ => h, fun a h => .inl h, by simp [hlen], fpAt fp as, fun k l e => ?_, fun k m l l' hkm e e' a ha hb => ?_⟩, fun l v ls' F' H' s' hll => ?_⟩
  · have e' : ls[k]? = some l := by simpa using e
    obtain ⟨v, hv, rl, ndp, q, _⟩ := info k l e'
    exact ⟨v, by simp [hv], rl, ndp, fun a ha => ⟨(q a ha).1, .inl (inFp k a ha)⟩⟩
  · unfold fpAt at ha hb
    split at ha
    · rename_i i ei
      split at hb
      · rename_i j ej
        by_cases hij : i = j
        · subst hij
          exact hkm (refs_inj nd ei ej)
        · obtain ⟨l1, _, g1⟩ := atk k i ei
          obtain ⟨l2, _, g2⟩ := atk m j ej
          exact h2 i j l1 l2 hij g1 g2 a ha hb
      · cases hb
    · cases ha
  · -- back in the caller's frame
    obtain ⟨fq, k1, k2⟩ := s'.own
    have f0 : Same F F' := s'.f0
    have keepH : ∀ a o, H a = some o → a ∉ fpOf fp as → H' a = some o := s'.keep
    have foF : ∀ a, F' a ≠ none → F a ≠ none ∨ (a ∈ fpOf fp as ∨ H a = none) := s'.fo
    have newO : ∀ a, (a ∈ fpOf fp as ∨ H a = none) → C.O a := fun a h => by
      rcases h with h | h
      · obtain ⟨i, hi, ha⟩ := mem_fpOf.mp h
        obtain ⟨k, hk⟩ := avAt hi
        obtain ⟨l1, _, g1⟩ := atk k i hk
        obtain ⟨_, _, _, _, q⟩ := h1 i l1 g1
        exact (q a ha).2
      · exact s.fresh h
    have notin : ∀ j m, ρ[j]? = some (some m) → j ∉ AV.refs as → ∀ a ∈ fp j, a ∉ fpOf fp as := fun j m hρ hj a ha hb => by
      obtain ⟨i, hi, hai⟩ := mem_fpOf.mp hb
      obtain ⟨k, hk⟩ := avAt hi
      obtain ⟨l1, _, g1⟩ := atk k i hk
      exact h2 j i m l1 (fun w => hj (w ▸ hi)) hρ g1 a ha hai
    have thereH : ∀ j m, ρ[j]? = some (some m) → ∀ a ∈ fp j, ∃ o, H a = some o := fun j m hρ a ha => by
      obtain ⟨_, _, rl, _⟩ := h1 j m hρ
      exact rl.there a ha
    have hml : (maskL ls ls').length = as.length := by rw [maskL_len hll, hal]
    classical
    let P : Nat → Prop := fun j => ∃ (k : Nat) (m : LV), as[k]? = some (AV.ref j) ∧ (maskL ls ls')[k]? = some (some m)
    let gp : Nat → List Addr := fun n => match n with
      | 0 => fq 0
      | j + 1 => if h : P j then fq (Classical.choose h + 1) else fp j
    -- what a slot holds: as it was, or behind the call
    have slot : ∀ j m, (AV.back ρ as (maskL ls ls'))[j]? = some (some m) →
        (gp (j + 1) = fp j ∧ ρ[j]? = some (some m) ∧ (j ∉ AV.refs as ∨ fp j = [])) ∨ (∃ k : Nat, as[k]? = some (AV.ref j) ∧ gp (j + 1) = fq (k + 1) ∧ (maskL ls ls')[k]? = some (some m)) := fun j m hm => by
      rcases back_get nd hml.symm hm with ⟨hρ, hno⟩ | ⟨k, hk, hkm⟩
      · have hP : ¬ P j := fun ⟨k, m', e1, e2⟩ => by
          rw [hno k e1] at e2
          cases e2
        refine .inl ⟨dif_neg hP, hρ, ?_⟩
        by_cases hj : j ∈ AV.refs as
        · refine .inr ?_
          obtain ⟨k, hk⟩ := avAt hj
          obtain ⟨l1, g0, g1⟩ := atk k j hk
          obtain ⟨l2, l3, e1, e2, e3⟩ := maskL_get (hno k hk)
          rw [g0] at e1
          cases e1
          obtain ⟨_, _, rl, _⟩ := h1 j l1 g1
          cases l1 with
          | fro p => exact rl.2
          | own p => simp [LV.isFro] at e3
          | ins c ns ls => simp [LV.isFro] at e3
        · exact .inl hj
      · have hP : P j := ⟨k, m, hk, hkm⟩
        have e1 : gp (j + 1) = fq (Classical.choose hP + 1) := dif_pos hP
        have e2 : Classical.choose hP = k := refs_inj nd (Classical.choose_spec hP).choose_spec.1 hk
        rw [e2] at e1
        exact .inr ⟨k, hk, e1, hkm⟩
    have valB : ∀ (j k : Nat) (m : LV), as[k]? = some (AV.ref j) → (maskL ls ls')[k]? = some (some m) → ∃ v', σ[j]? = some (some v') ∧ RepL C.K F' H' m v' (fq (k + 1)) ∧ (fq (k + 1)).Nodup ∧ ∀ a ∈ fq (k + 1), F' a = none ∧ (a ∈ fpOf fp as ∨ H a = none) := fun j k m hk hkm => by
      obtain ⟨v2, hv2, rl2, nd2, q2⟩ := k1 (k + 1) m (by simpa using hkm)
      obtain ⟨l1, g0, _⟩ := atk k j hk
      obtain ⟨v', hv', _, _, _, f⟩ := info k l1 g0
      have e : v2 = v' := by
        have : (vs.map some)[k]? = some (some v2) := by simpa using hv2
        rw [List.getElem?_map, hv'] at this
        simpa using this.symm
      subst e
      exact ⟨v2, (f j hk).1, rl2, nd2, q2⟩
    have hlenρ : (AV.back ρ as (maskL ls ls')).length = σ.length := by rw [back_len, s.len]
    refine ⟨s'.le, s.f0.trans f0, fun a o e ha => ?_, fun a e => ?_, by simp [hlenρ], gp, fun n m hm => ?_, fun n n' m m' hnn hm hm' => ?_⟩
    · refine keepH a o (s.keep a o e ha) fun hf => ?_
      rcases newO a (.inl hf) with z | z
      · exact ha z
      · rw [e] at z; cases z
    · rcases foF a e with z | z
      · exact s.fo a z
      · exact .inr (newO a z)
    · cases n with
      | zero =>
        simp only [List.getElem?_cons_zero, Option.some.injEq] at hm
        obtain ⟨v', hv', rl, nd1, q⟩ := k1 0 m (by simpa using hm)
        have e : v' = v := by simpa using hv'.symm
        subst e
        exact ⟨v', rfl, rl, nd1, fun a ha => ⟨(q a ha).1, newO a (q a ha).2⟩⟩
      | succ j =>
        rcases slot j m (by simpa using hm) with ⟨eg, hρ, hj⟩ | ⟨k, hk, eg, hkm⟩
        · rw [eg]
          obtain ⟨v', hv', rl, ndp, q⟩ := h1 j m hρ
          refine ⟨v', by simpa using hv', ?_, ndp, fun a ha => ⟨?_, (q a ha).2⟩⟩
          · refine rl.frame f0 fun a ha => ?_
            rcases hj with hj | hj
            · obtain ⟨o, ho⟩ := rl.there a ha
              rw [keepH a o ho (notin j m hρ hj a ha), ho]
            · rw [hj] at ha; cases ha
          · rcases hj with hj | hj
            · cases z : F' a with
              | none => rfl
              | some o =>
                rcases foF a (by rw [z]; exact fun w => nomatch w) with w | w | w
                · exact absurd (q a ha).1 w
                · exact absurd w (notin j m hρ hj a ha)
                · obtain ⟨o', ho⟩ := rl.there a ha
                  rw [ho] at w; cases w
            · rw [hj] at ha; cases ha
        · rw [eg]
          obtain ⟨v', e1, e2, e3, e4⟩ := valB j k m hk hkm
          exact ⟨v', by simpa using e1, e2, e3, fun a ha => ⟨(e4 a ha).1, newO a (e4 a ha).2⟩⟩
    · -- apart
      have apartA : ∀ j m, ρ[j]? = some (some m) → (j ∉ AV.refs as ∨ fp j = []) → ∀ a, (a ∈ fpOf fp as ∨ H a = none) → a ∉ fp j := fun j m hρ hj a hz hb => by
        rcases hj with hj | hj
        · rcases hz with hz | hz
          · exact notin j m hρ hj a hb hz
          · obtain ⟨o, ho⟩ := thereH j m hρ a hb
            rw [ho] at hz; cases hz
        · rw [hj] at hb; cases hb
      cases n with
      | zero =>
        cases n' with
        | zero => exact absurd rfl hnn
        | succ j =>
          have hz0 : ∀ a ∈ fq 0, (a ∈ fpOf fp as ∨ H a = none) := fun a ha => by
            obtain ⟨_, _, _, _, q⟩ := k1 0 l rfl
            exact (q a ha).2
          rcases slot j m' (by simpa using hm') with ⟨eg, hρ, hj⟩ | ⟨k, hk, eg, hkm⟩
          · rw [eg]
            exact fun a ha => apartA j m' hρ hj a (hz0 a ha)
          · rw [eg]
            exact k2 0 (k + 1) l m' (by omega) rfl (by simpa using hkm)
      | succ i =>
        cases n' with
        | zero =>
          have hz0 : ∀ a ∈ fq 0, (a ∈ fpOf fp as ∨ H a = none) := fun a ha => by
            obtain ⟨_, _, _, _, q⟩ := k1 0 l rfl
            exact (q a ha).2
          rcases slot i m (by simpa using hm) with ⟨eg, hρ, hj⟩ | ⟨k, hk, eg, hkm⟩
          · rw [eg]
            exact fun a ha hb => apartA i m hρ hj a (hz0 a hb) ha
          · rw [eg]
            exact k2 (k + 1) 0 m l (by omega) (by simpa using hkm) rfl
        | succ j =>
          have hij : i ≠ j := fun w => hnn (by rw [w])
          rcases slot i m (by simpa using hm) with ⟨eg, hρ, hj⟩ | ⟨k, hk, eg, hkm⟩
          · rw [eg]
            rcases slot j m' (by simpa using hm') with ⟨eg', hρ', hj'⟩ | ⟨k', hk', eg', hkm'⟩
            · rw [eg']
              exact h2 i j m m' hij hρ hρ'
            · rw [eg']
              obtain ⟨_, _, _, _, e4⟩ := valB j k' m' hk' hkm'
              exact fun a ha hb => apartA i m hρ hj a (e4 a hb).2 ha
          · rw [eg]
            obtain ⟨_, _, _, _, e4⟩ := valB i k m hk hkm
            rcases slot j m' (by simpa using hm') with ⟨eg', hρ', hj'⟩ | ⟨k', hk', eg', hkm'⟩
            · rw [eg']
              exact fun a ha => apartA j m' hρ' hj' a (e4 a ha).2
            · rw [eg']
              have hkk : k ≠ k' := fun w => by
                subst w
                rw [hk] at hk'
                cases hk'
                exact hij rfl
              exact k2 (k + 1) (k' + 1) m m' (by omega) (by simpa using hkm) (by simpa using hkm')
end
end Br
set_option maxHeartbeats 1000000
/-! BrE2: the rules of expressions. -/
namespace Br
open PySem PySem.Spec PyProof.Rows L2

/-- what a context must have -/
structure XO (X : Cx) (C : Cb) : Prop where
  K : C.K = X.K
  nd : X.N.Nodup
  un : X.A.units + 131 < cLine
/-- .. where no exception is handled -/
structure XC (X : Cx) (C : Cb) : Prop extends XO X C where
  calm : X.calm = true

/-- a value that may be our own, on top of the slots -/
def PostL (C : Cb) (W : WX) (σ : L2.St) (F : Hp) (r : ER LV) (k : LV → Env → Hp → Hp → V → Prop) : Prop := match r with
  | .ok l ρ => ∀ F' H' v, Same F F' → SR C F' (some l :: ρ) (some v :: σ) H' → k l ρ F' H' v
  | .ex c ρ => ∀ F' H', Same F F' → SR C F' ρ σ H' → W (.ref (He.ga C.K c)) none σ H'
  | .st => False
section
variable {C : Cb} {W : WX} {σ : L2.St} {F F1 H : Hp} {ρ : Env} {α : Type}
theorem PostL.mono {r : ER LV} {k : LV → Env → Hp → Hp → V → Prop} (h : PostL C W σ F r k) (e : Same F F1) : PostL C W σ F1 r k := by
  cases r with
  | ok a ρ => exact fun F' H' v e' s => h F' H' v (e.trans e') s
  | ex c ρ => exact fun F' H' e' s => h F' H' (e.trans e') s
  | st => exact h
theorem PostL.imp {r : ER LV} {k k' : LV → Env → Hp → Hp → V → Prop} (h : PostL C W σ F r k) (i : ∀ l ρ F' H' v, Same F F' → SR C F' (some l :: ρ) (some v :: σ) H' → k l ρ F' H' v → k' l ρ F' H' v) : PostL C W σ F r k' := by
  cases r with
  | ok a ρ => exact fun F' H' v e' s => i _ _ _ _ _ e' s (h F' H' v e' s)
  | ex c ρ => exact fun F' H' e' s => h F' H' e' s
  | st => exact h
theorem PostL.bindV {r : ER α} {f : α → Env → ER LV} {k : LV → Env → Hp → Hp → V → Prop} (h : PostL C W σ F (r.bind f) k) : Post C W σ F r fun a ρ1 F1 _ => PostL C W σ F1 (f a ρ1) k := by
  cases r with
  | ok a ρ => exact fun F' H' e' s => h.mono e'
  | ex c ρ => exact fun F' H' e' s => h F' H' e' s
  | st => exact h
/-- frozen behind -/
theorem SR.popL {l : LV} {v : V} {p : PV} (s : SR C F (some l :: ρ) (some v :: σ) H) (h : l.pv = some p) : ∃ F', Same F F' ∧ SR C F' ρ σ H ∧ Rep C.K F' p v := by
  cases l with
  | fro q => cases h; obtain ⟨s', r⟩ := s.popFro; exact ⟨F, Same.refl F, s', r⟩
  | own q => cases h; exact s.popOwn
  | ins c ns ls => cases h
end

section
variable (C : Cb) (Φ : Nat → List LV → CR) (W : WX)
def tL' (e : Ex) : TE := fun σ H Q => ∃ ρ F, SR C F ρ σ H ∧ PostL C W σ F (evL Φ e ρ) fun _ _ _ H' v => Q v H'
/-- an operation -/
def tO (o : Op) (as : List Arg) : TE := fun σ H Q => tAs C Φ W as σ H fun vs H1 => rOp C.K o vs H1 Q
/-- a method -/
def tM (o : Op) (a : Arg) (as : List Arg) : TE := fun σ H Q => tA1 C Φ W a σ H fun x H1 => (∃ F p, Same F H1 ∧ recvOk o (some p) = true ∧ RepB C.K F H1 p x) ∧ tAs C Φ W as σ H1 fun vs H2 => rOp C.K o (x :: vs) H2 Q
end

section
variable {C : Cb} {Φ : Nat → List LV → CR} {W : WX} {X : Cx} {a b c e : Expr} {es : List Expr} {pos p : Pos} {x : Str}
/-! ### from reading to reading -/
theorem tA1.imp {ir : Arg} {σ : L2.St} {H : Hp} {Q Q' : VK} (h : tA1 C Φ W ir σ H Q) (i : ∀ v H', Q v H' → Q' v H') : tA1 C Φ W ir σ H Q' := by
  obtain ⟨ρ, F, s, q⟩ := h
  exact ⟨ρ, F, s, q.imp fun _ _ _ _ _ _ k v r => i _ _ (k v r)⟩
theorem tAs.imp {ir : List Arg} {σ : L2.St} {H : Hp} {Q Q' : List V → Hp → Prop} (h : tAs C Φ W ir σ H Q) (i : ∀ v H', Q v H' → Q' v H') : tAs C Φ W ir σ H Q' := by
  obtain ⟨ρ, F, s, q⟩ := h
  exact ⟨ρ, F, s, q.imp fun _ _ _ _ _ _ k v r => i _ _ (k v r)⟩
theorem tO_1 {o : Op} {a : Arg} {σ : L2.St} {H : Hp} {Q : VK} (q : tO C Φ W o [a] σ H Q) : tA1 C Φ W a σ H fun x H1 => rOp C.K o [x] H1 Q := by
  obtain ⟨ρ, F, s, p⟩ := tAs_cons q
  exact ⟨ρ, F, s, p.imp fun a ρ1 F1 H1 e1 s1 k v r => tAs_nil (k v r)⟩
theorem tO_2 {o : Op} {a b : Arg} {σ : L2.St} {H : Hp} {Q : VK} (q : tO C Φ W o [a, b] σ H Q) : tA1 C Φ W a σ H fun x H1 => tA1 C Φ W b σ H1 fun y H2 => rOp C.K o [x, y] H2 Q := by
  obtain ⟨ρ, F, s, p⟩ := tAs_cons q
  refine ⟨ρ, F, s, p.imp fun a ρ1 F1 H1 e1 s1 k v r => ?_⟩
  obtain ⟨ρ, F, s, p⟩ := tAs_cons (k v r)
  exact ⟨ρ, F, s, p.imp fun a ρ1 F1 H1 e1 s1 k v r => tAs_nil (k v r)⟩
theorem e_op {o : Op} {as : List Arg} (h : PE X e (tO C Φ W o as)) : PE X e (tE C Φ W (.app o as)) := h.weak fun _ _ _ q => tE_app q
theorem e_mth {o : Op} {a : Arg} {as : List Arg} (h : PE X e (tM C Φ W o a as)) : PE X e (tE C Φ W (.mth o a as)) := h.weak fun _ _ _ q => tE_mth q
/-- the operation's object is kept as our own -/
theorem ResR.keepL {F H H' : Hp} {ρ : Env} {σ : L2.St} {o : Op} {r : PV} {v : V} (s : SR C F ρ σ H) (h : ResR C.K F H o.new r v H') : ∃ F', Same F F' ∧ SR C F' (some (ownV o r) :: ρ) (some v :: σ) H' := by
  unfold ownV
  by_cases hn : o.new = true
  · rw [if_pos hn]
    rw [hn] at h
    obtain ⟨F', e, s'⟩ := h.own s
    exact ⟨F', e, by cases r <;> exact s'⟩
  · rw [if_neg hn]
    obtain ⟨F', e, s', r'⟩ := h.fro s
    exact ⟨F', e, s'.push r'⟩
theorem l_op {o : Op} {as : List Arg} (h : PE X e (tO C Φ W o as)) : PE X e (tL' C Φ W (.app o as)) := h.weak fun σ H Q q => by
  obtain ⟨ρ, F, s, p⟩ := q
  have p : PostL C W σ F ((evE Φ (.app o as) ρ).bind fun p ρ1 => .ok (ownV o p) ρ1) fun _ _ _ H' v => Q v H' := p
  have p := p.bindV
  unfold evE at p
  refine ⟨ρ, F, s, p.bind.imp fun as ρ1 F1 H1 e1 s1 k vs r => ?_⟩
  obtain ⟨x, hx, k⟩ := k.of
  obtain ⟨ps, h1, h2⟩ := Option.bind_eq_some_iff.mp hx
  obtain ⟨ps', hb', h2'⟩ := opX_sem (r.b s1 h1) h2
  refine ⟨F1, ps', x, s1.le, hb', h2', fun v H2 h3 => ?_⟩
  obtain ⟨F3, e3, s3⟩ := ResR.keepL s1 h3
  exact k F1 H1 (Same.refl F1) s1 F3 H2 v e3 s3
theorem l_mth {o : Op} {a : Arg} {as : List Arg} (h : PE X e (tM C Φ W o a as)) : PE X e (tL' C Φ W (.mth o a as)) := h.weak fun σ H Q q => by
  obtain ⟨ρ, F, s, p⟩ := q
  have p : PostL C W σ F ((evE Φ (.mth o a as) ρ).bind fun p ρ1 => .ok (ownV o p) ρ1) fun _ _ _ H' v => Q v H' := p
  have p := p.bindV
  unfold evE at p
  refine ⟨ρ, F, s, p.bind.imp fun av ρ1 F1 H1 e1 s1 k v r => ?_⟩
  split at k
  · rename_i hr
    have hp : ∃ p, av.pv ρ1 = some p := by
      cases e : av.pv ρ1 with
      | none => rw [e] at hr; cases o <;> cases hr
      | some p => exact ⟨p, rfl⟩
    obtain ⟨p1, hp1⟩ := hp
    refine ⟨⟨F1, p1, s1.le, by rw [← hp1]; exact hr, r.b s1 hp1⟩, ρ1, F1, s1, k.bind.imp fun as ρ2 F2 H2 e2 s2 k2 vs rs => ?_⟩
    obtain ⟨x, hx, k⟩ := k2.of
    obtain ⟨ps, h1, h2⟩ := Option.bind_eq_some_iff.mp hx
    refine ⟨F2, ps, x, s2.le, AVRs.b s2 (as := av :: as) ⟨v, vs, rfl, r.mono e2, rs⟩ h1, h2, fun v H2 h3 => ?_⟩
    obtain ⟨F3, e3, s3⟩ := ResR.keepL s2 h3
    exact k F2 _ (Same.refl F2) s2 F3 H2 v e3 s3
  · exact False.elim k
/-- a value that is frozen anyway -/
theorem l_of {ir : Ex} (h : PE X e (tE C Φ W ir)) (hl : ∀ ρ, evL Φ ir ρ = (evE Φ ir ρ).bind fun p ρ1 => .ok (.fro p) ρ1 := by intro _; rfl) : PE X e (tL' C Φ W ir) := h.weak fun σ H Q q => by
  obtain ⟨ρ, F, s, p⟩ := q
  rw [hl] at p
  exact ⟨ρ, F, s, p.bindV.imp fun p ρ1 F1 H1 e1 s1 k v r => k F1 H1 v (Same.refl F1) (s1.push r)⟩
/-- an own value, frozen -/
theorem e_ofL {ir : Ex} (h : PE X e (tL' C Φ W ir)) (hl : ∀ ρ, evE Φ ir ρ = froE (evL Φ ir ρ)) : PE X e (tE C Φ W ir) := h.weak fun σ H Q q => by
  obtain ⟨ρ, F, s, p⟩ := q
  refine ⟨ρ, F, s, ?_⟩
  rw [hl] at p
  unfold froE at p
  cases hr : evL Φ ir ρ with
  | ok l ρ1 =>
    rw [hr] at p
    intro F' H' v e' s'
    have p : Post C W σ F (ER.of l.pv ρ1) fun p _ F' H' => ∀ v, Rep C.K F' p v → Q v H' := p
    obtain ⟨x, hx, k⟩ := p.of
    obtain ⟨F2, e2, s2, r2⟩ := SR.popL s' hx
    exact k F2 H' (e'.trans e2) s2 v r2
  | ex c ρ1 =>
    rw [hr] at p
    exact p
  | st =>
    rw [hr] at p
    exact p

/-! ### names, constants -/
theorem e_var {i : Nat} (hN : X.N[i]? = some x) (hv : Vis X.env.scope x) (hd : (x == ("__debug__" : Str)) = false := by decide) (hcd : (x == ("__classdict__" : Str)) = false := by decide) : PE X (.Name x p) (tE C Φ W (.var i)) :=
  (pe_var hN hv hd hcd).weak fun _ _ _ q => tE_var q
theorem a_var {i : Nat} (hN : X.N[i]? = some x) (hv : Vis X.env.scope x) (hd : (x == ("__debug__" : Str)) = false := by decide) (hcd : (x == ("__classdict__" : Str)) = false := by decide) : PE X (.Name x p) (tA1 C Φ W (.ref i)) :=
  (pe_var hN hv hd hcd).weak fun _ _ _ q => tA1_var q
theorem a_val {ir : Ex} (h : PE X e (tE C Φ W ir)) : PE X e (tA1 C Φ W (.val ir)) := h.weak fun _ _ _ q => tA1_of q
theorem tE_cst {c : PV} {v : V} {σ : L2.St} {H : Hp} {Q : VK} (hr : ∀ K F, Rep K F c v) (q : tE C Φ W (.cst c) σ H Q) : tC v σ H Q := by
  obtain ⟨ρ, F, s, p⟩ := q
  unfold evE at p
  exact p F H (Same.refl F) s v (hr _ _)
theorem e_int {i : Int} {j} : PE X (.Constant (.int i) j pos) (tE C Φ W (.cst (.int i))) := pe_int.weak fun _ _ _ q => tE_cst (c := .int i) (fun _ _ => rfl) q
theorem e_bl {i : Bool} {j} : PE X (.Constant (.bool i) j pos) (tE C Φ W (.cst (.bl i))) := pe_bl.weak fun _ _ _ q => tE_cst (c := .bl i) (fun _ _ => rfl) q
theorem e_non {j} : PE X (.Constant .none j pos) (tE C Φ W (.cst .non)) := pe_non.weak fun _ _ _ q => tE_cst (c := .non) (fun _ _ => rfl) q
theorem e_str {i : Str} {j} : PE X (.Constant (.str i) j pos) (tE C Φ W (.cst (.str i))) := pe_str.weak fun _ _ _ q => tE_cst (c := .str i) (fun _ _ => rfl) q

/-! ### argument lists -/
theorem as_nil : PA X [] (tAs C Φ W []) := pa_nil.weak fun _ _ _ q => tAs_nil q
theorem as_cons {ir : Arg} {irs : List Arg} (h : PE X e (tA1 C Φ W ir)) (hr : PA X es (tAs C Φ W irs)) (hs : starEach (e :: es) X.env = (false, eval e X.env) :: starEach es X.env := by rfl) : PA X (e :: es) (tAs C Φ W (ir :: irs)) :=
  (pa_cons h hr hs).weak fun _ _ _ q => tAs_cons q
theorem es_nil : PA X [] (tEs C Φ W []) := pa_nil.weak fun _ _ _ q => tEs_nil q
theorem es_cons {ir : Ex} {irs : List Ex} (h : PE X e (tE C Φ W ir)) (hr : PA X es (tEs C Φ W irs)) (hs : starEach (e :: es) X.env = (false, eval e X.env) :: starEach es X.env := by rfl) : PA X (e :: es) (tEs C Φ W (ir :: irs)) :=
  (pa_cons h hr hs).weak fun _ _ _ q => tEs_cons q

/-! ### operations -/
theorem o_bin {op : Operator} {o : Op} {ia ib : Arg} (ho : OpR X (binaryOp op) (R2of C.K o)) (ha : PE X a (tA1 C Φ W ia)) (hb : PE X b (tA1 C Φ W ib)) : PE X (.BinOp a op b pos) (tO C Φ W o [ia, ib]) :=
  (pe_op ho ha hb).weak fun _ _ _ q => tO_2 q
theorem o_cmp {op : CmpOp} {o : Op} {ia ib : Arg} (ho : OpR X (compareOp op) (R2of C.K o)) (hm : behindInMarks op b = false) (ha : PE X a (tA1 C Φ W ia)) (hb : PE X b (tA1 C Φ W ib)) : PE X (.Compare a [op] [b] pos) (tO C Φ W o [ia, ib]) :=
  (pe_cmpR ho ha hb hm).weak fun _ _ _ q => tO_2 q
theorem o_cmpC {op : CmpOp} {o : Op} {ia : Arg} {v : V} (ho : OpR X (compareOp op) (fun x y H Q => y = v ∧ rOp C.K o [x] H Q)) (hm : behindInMarks op b = false) (ha : PE X a (tA1 C Φ W ia)) (hb : PE X b (tC v)) : PE X (.Compare a [op] [b] pos) (tO C Φ W o [ia]) :=
  (pe_cmpR ho ha hb hm).weak fun _ _ _ q => (tO_1 q).imp fun _ _ k => ⟨rfl, k⟩
theorem o_neg (o : XO X C) {ia : Arg} (ha : PE X a (tA1 C Φ W ia)) : PE X (.UnaryOp .USub a pos) (tO C Φ W .neg [ia]) :=
  (pe_un ur_neg ha).weak fun _ _ _ q => by rw [← o.K]; exact tO_1 q
/-- a builtin function; a builtin type -/
theorem o_blt {id : String} {o : Op} {irs : List Arg} (hc : CallR X (.builtin id) (fun xs H Q => rOp C.K o xs H Q)) (hg : Gl X x) (hm : X.mg x = none) (hv : bootBuiltins x = some (.builtin id)) (ha : PA X (e :: es) (tAs C Φ W irs)) (hn : x ≠ "__name__" := by decide) (hdb : (x == ("__debug__" : Str)) = false := by decide)
    (he : starEach (e :: es) X.env = (false, eval e X.env) :: starEach es X.env := by rfl) (hpl : (backTo pos (starEach es X.env)).any (·.1) = false := by rfl) : PE X (.Call (.Name x p) (e :: es) [] pos) (tO C Φ W o irs) :=
  (pe_callB hc hg hm hv ha hn hdb he hpl).weak fun _ _ _ q => q
theorem o_ty {id : String} {o : Op} {irs : List Arg} (hc : CallR X (.type id) (fun xs H Q => rOp C.K o xs H Q)) (hg : Gl X x) (hm : X.mg x = none) (hv : bootBuiltins x = some (.type id)) (ha : PA X (e :: es) (tAs C Φ W irs)) (hn : x ≠ "__name__" := by decide) (hdb : (x == ("__debug__" : Str)) = false := by decide)
    (he : starEach (e :: es) X.env = (false, eval e X.env) :: starEach es X.env := by rfl) (hpl : (backTo pos (starEach es X.env)).any (·.1) = false := by rfl) : PE X (.Call (.Name x p) (e :: es) [] pos) (tO C Φ W o irs) :=
  (pe_callTy hc hg hm hv ha hn hdb he hpl).weak fun _ _ _ q => q
/-- isinstance(x, T) -/
theorem o_isT1 {c : String} {ia : Arg} (hg : Gl X "isinstance") (hm : X.mg "isinstance" = none) (o : XO X C) (ha : PE X a (tA1 C Φ W ia)) (hb : PE X b (tC (.ty c)))
    (he : starEach [a, b] X.env = (false, eval a X.env) :: starEach [b] X.env := by rfl) (he2 : starEach [b] X.env = (false, eval b X.env) :: starEach [] X.env := by rfl) (hpl : (backTo pos (starEach [b] X.env)).any (·.1) = false := by rfl) :
    PE X (.Call (.Name "isinstance" p) [a, b] [] pos) (tO C Φ W (.isTy [c]) [ia]) :=
  (pe_callB (cr_isTy1 (c := c)) hg hm boot_isinstance (pa_cons ha (pa_cons hb pa_nil he2) he) (by decide) (by decide) he hpl).weak fun σ H Q q =>
    (tO_1 q).imp fun v H' k => ⟨v, rfl, by rw [← o.K]; exact k⟩
/-- isinstance(x, (T, ..)) -/
theorem e_isTN {cs : List String} {ia : Arg} {k : Nat} {p2 : Pos} (hn : cs ≠ []) (hz : cs.length ≤ 30) (hg : Gl X "isinstance") (hm : X.mg "isinstance" = none) (o : XO X C) (ha : PE X a (tA1 C Φ W ia)) (hb : PA X es (fun _ H Q => Q (cs.map V.ty) H))
    (he : starEach [a, .Tuple es k p2] X.env = (false, eval a X.env) :: starEach [.Tuple es k p2] X.env := by rfl) :
    PE X (.Call (.Name "isinstance" p) [a, .Tuple es k p2] [] pos) (tE C Φ W (.app (.isTy cs) [ia])) :=
  (pe_callB (cr_isTyN hn) hg hm boot_isinstance (pa_cons ha (pa_cons (pe_tup hb) pa_nil) he) (by decide) (by decide) he rfl).weak fun σ H Q q => by
    obtain ⟨ρ, F, s, q⟩ := q
    unfold evE at q
    have q := q.bind
    unfold evAs at q
    refine ⟨ρ, F, s, q.bind.imp fun av ρ1 F1 H1 e1 s1 k1 v r => ?_⟩
    have k1 : Post C W σ F1 ((AV.pvs ρ1 [av]).bind (opX (.isTy cs)) |> fun o => ER.of o ρ1) fun p _ F' H' => ∀ v, Rep C.K F' p v → Q v H' := k1 F1 H1 (Same.refl F1) s1
    obtain ⟨y, hy, k2⟩ := k1.of
    obtain ⟨ps, h1, h2⟩ := Option.bind_eq_some_iff.mp hy
    refine ⟨?_, fun tp hf => ⟨v, tp, rfl, upd_same, ?_⟩⟩
    · rw [List.length_map]
      exact Nat.le_trans hz (by decide)
    · have s2 := s1.allocH hf (.tup (cs.map V.ty))
      obtain ⟨ps', hb', h2⟩ := opX_sem (AVRs.b s2 (as := [av]) (vs := [v]) ⟨v, [], rfl, r, rfl⟩ h1) h2
      refine ⟨F1, ps', y, s2.le, by rw [← o.K]; exact hb', h2, fun v' H' hr => ?_⟩
      have hb : ∃ b, y = .bl b := by
        have h2 : isTyOP cs ps' = some y := h2
        unfold isTyOP at h2
        split at h2
        · obtain ⟨b, _, rfl⟩ := Option.map_eq_some_iff.mp h2
          exact ⟨b, rfl⟩
        · cases h2
      obtain ⟨b, rfl⟩ := hb
      rw [← o.K] at hr
      obtain ⟨F3, e3, s3, r3⟩ := hr.fro s2
      exact k2 F3 H' e3 s3 v' r3
theorem ty_nil : PA X [] (fun _ H Q => Q (([] : List String).map V.ty) H) := pa_nil.weak fun _ _ _ q => q
theorem ty_cons {c : String} {cs : List String} (h : PE X e (tC (.ty c))) (hr : PA X es (fun _ H Q => Q (cs.map V.ty) H)) (hs : starEach (e :: es) X.env = (false, eval e X.env) :: starEach es X.env := by rfl) : PA X (e :: es) (fun _ H Q => Q ((c :: cs).map V.ty) H) :=
  (pa_cons h hr hs).weak fun _ _ _ q => q
/-- a[b] -/
theorem o_ix (o : XO X C) {ia ib : Arg} (ha : PE X a (tA1 C Φ W ia)) (hb : PE X b (tA1 C Φ W ib)) (hs : PlainIx b := by intro _ _; rfl) : PE X (.Subscript a b pos) (tO C Φ W .idx [ia, ib]) :=
  (pe_ix (ir_idx (by have := o.un; omega)) ha hb hs).weak fun _ _ _ q => by rw [← o.K]; exact tO_2 q
/-! slices -/
theorem o_sl00 (o : XO X C) {ia : Arg} (ha : PE X a (tA1 C Φ W ia)) {p2 : Pos} : PE X (.Subscript a (.Slice none none none p2) pos) (tO C Φ W (.slc false false) [ia]) :=
  (pe_slice sr_slc ha po_none po_none).weak fun _ _ _ q => by
    refine (tO_1 q).imp fun x H' k => ?_
    rw [← o.K]; exact k
theorem rOp_int {K : PySem.W.Frag} {lo hi : Bool} {x y : V} {ys : List V} {H : Hp} {Q : VK} (h : rOp K (.slc lo hi) (x :: y :: ys) H Q) (hb : (lo || hi) = true) : ∃ i, y = .int i := by
  obtain ⟨F, ps, r, e, rb, hs, _⟩ := h
  cases ps with
  | nil => cases rb
  | cons p ps =>
    obtain ⟨v, rr, ee, _, rb⟩ := rb
    cases ee
    have hs : slcP lo hi (p :: ps) = some r := hs
    unfold slcP at hs
    dsimp only at hs
    cases ps with
    | nil => cases rb
    | cons q ps =>
      obtain ⟨v', rr', ee', rq, rb'⟩ := rb
      cases ee'
      have hi : ∃ i, q = .int i := by
        cases lo with
        | true =>
          cases q with
          | int i => exact ⟨i, rfl⟩
          | _ => simp [slcPart] at hs
        | false =>
          cases hi with
          | true =>
            cases q with
            | int i => exact ⟨i, rfl⟩
            | _ => simp [slcPart] at hs
          | false => cases hb
      obtain ⟨i, rfl⟩ := hi
      exact ⟨i, rq⟩
theorem o_sl10 (o : XO X C) {ia ib : Arg} (ha : PE X a (tA1 C Φ W ia)) (hb : PE X b (tA1 C Φ W ib)) {p2 : Pos} : PE X (.Subscript a (.Slice (some b) none none p2) pos) (tO C Φ W (.slc true false) [ia, ib]) :=
  (pe_slice sr_slc ha (po_some hb) po_none).weak fun _ _ _ q => by
    refine (tO_2 q).imp fun x H' k => k.imp fun y H2 k2 => ?_
    obtain ⟨i, rfl⟩ := rOp_int k2 rfl
    refine ⟨i, rfl, ?_⟩
    show rOp X.K _ _ _ _
    rw [← o.K]; exact k2
theorem o_sl01 (o : XO X C) {ia ib : Arg} (ha : PE X a (tA1 C Φ W ia)) (hb : PE X b (tA1 C Φ W ib)) {p2 : Pos} : PE X (.Subscript a (.Slice none (some b) none p2) pos) (tO C Φ W (.slc false true) [ia, ib]) :=
  (pe_slice sr_slc ha po_none (po_some hb)).weak fun _ _ _ q => by
    refine (tO_2 q).imp fun x H' k => k.imp fun y H2 k2 => ?_
    obtain ⟨i, rfl⟩ := rOp_int k2 rfl
    refine ⟨i, rfl, ?_⟩
    show rOp X.K _ _ _ _
    rw [← o.K]; exact k2
end
end Br
set_option maxHeartbeats 1000000
/-! BrZ: zip of two sequences, each a list or a tuple. -/
namespace Br
open PySem PySem.Spec PyProof.Rows L2
/-- a kind of sequence, with its iterator -/
structure Kd where
  cls : String
  is : Heap → Addr → Array Value → Prop
  it : Heap → Addr → Addr → Nat → Prop
  sq : PySem.W.Frag → Hp → Addr → List V → Prop
  isE : ∀ {h h' : Heap} {a b : Addr} {xs : Array Value}, is h a xs → Heap.ExtBut b h h' → a ≠ b → is h' a xs
  isP : ∀ {h : Heap} {a : Addr} {xs : Array Value}, is h a xs → ∀ o, is (h.push o) a xs
  isL : ∀ {h : Heap} {a : Addr} {xs : Array Value}, is h a xs → a < h.objs.size
  itE : ∀ {h h' : Heap} {a b l : Addr} {i : Nat}, it h a l i → Heap.ExtBut b h h' → a ≠ b → it h' a l i
  itA : ∀ {h h' : Heap} {a l : Addr} {i : Nat}, it h a l i → (∀ o, h.get? a = some o → h'.get? a = some o) → it h' a l i
  itD : ∀ {h : Heap} {a l : Addr} {i : Nat}, it h a l i → ∃ o fs, h.get? a = some o ∧ o.data = .fields fs
  itN : ∀ {h : Heap} {a l : Addr}, h.get? a = some { cls := .type cls, data := .fields #[.ref l, .int 0 0] } → it h a l 0
  item : ∀ {prog : Program} {w : World} {A : Around} {E : Value → Shared → Prop} {s : Shared} {t l : Addr} {i : Nat} {items : Array Value} {x : Value} {Q : Value → Shared → Prop}, it s.heap t l i → is s.heap l items → items[i]? = some x →
    (∀ h', it h' t l (i + 1) → Heap.SameBut t s.heap h' → Q x { s with heap := h' }) → wpAny (model prog w) A (Builtin.SmallTypes.nextOf (.ref t)) Q E s
  fin : ∀ {prog : Program} {w : World} {A : Around} {E : Value → Shared → Prop} {s : Shared} {t l : Addr} {i : Nat} {items : Array Value} {Q : Value → Shared → Prop}, A.handled = none → it s.heap t l i → is s.heap l items → items[i]? = none →
    (∀ h' e, Heap.ExtBut t s.heap h' → (∃ o, h'.get? e = some o ∧ o.cls = .type "StopIteration") → E (.ref e) { s with heap := h' }) → wpAny (model prog w) A (Builtin.SmallTypes.nextOf (.ref t)) Q E s
  iter : ∀ {prog : Program} {w : World} {A : Around} {E : Value → Shared → Prop} {s : Shared} {l : Addr} {items : Array Value} {Q : Value → Shared → Prop}, is s.heap l items →
    Q (.ref s.heap.objs.size) { s with heap := s.heap.push { cls := .type cls, data := .fields #[.ref l, .int 0 0] } } → wpAny (model prog w) A (pyIter (.ref l)) Q E s
  rd : ∀ {X : Cx} {pins : List (Addr × Obj)} {σ : L2.St} {H : Hp} {s : Shared} {a : Addr} {xs : List V}, Inv X pins σ H s → sq X.K H a xs → ∃ its : List Value, Vals xs its ∧ is s.heap a its.toArray
  inj : ∀ {X : Cx} {pins : List (Addr × Obj)} {σ : L2.St} {H : Hp} {s : Shared} {a : Addr} {xs ys : List V}, Inv X pins σ H s → sq X.K H a xs → sq X.K H a ys → xs = ys
def kL : Kd where
  cls := "list_iterator"
  is := Heap.IsList
  it := Heap.IsListIter
  sq := SqL
  isE := Heap.IsList.extBut
  isP := Heap.IsList.push
  isL := fun h => by obtain ⟨o, ho, _⟩ := h; exact Heap.lt_size ho
  itE := Heap.IsListIter.extBut
  itA := Heap.IsListIter.at
  itD := fun h => by obtain ⟨o, ho, _, hd⟩ := h; exact ⟨o, _, ho, hd⟩
  itN := fun h => ⟨_, h, rfl, rfl⟩
  item := fun h1 h2 h3 h4 => wpAny_nextOf_list_item h1 h2 h3 h4
  fin := fun h0 h1 h2 h3 h4 => wpAny_nextOf_list_end h0 h1 h2 h3 h4
  iter := fun h1 h2 => wpAny_pyIter_list h1 h2
  rd := fun I q => by obtain ⟨its, rv, p, _⟩ := I.list q; exact ⟨its, rv, p.isList⟩
  inj := fun I q q' => I.list_inj q q'
def kT : Kd where
  cls := "tuple_iterator"
  is := Heap.IsTuple
  it := Heap.IsTupleIter
  sq := SqT
  isE := Heap.IsTuple.extBut
  isP := Heap.IsTuple.push
  isL := fun h => by obtain ⟨o, ho, _⟩ := h; exact Heap.lt_size ho
  itE := Heap.IsTupleIter.extBut
  itA := Heap.IsTupleIter.at
  itD := fun h => by obtain ⟨o, ho, _, hd⟩ := h; exact ⟨o, _, ho, hd⟩
  itN := fun h => ⟨_, h, rfl, rfl⟩
  item := fun h1 h2 h3 h4 => RZ.nextOf_tuple_item h1 h2 h3 h4
  fin := fun h0 h1 h2 h3 h4 => RZ.nextOf_tuple_end h0 h1 h2 h3 h4
  iter := fun h1 h2 => wpAny_pyIter_tuple h1 h2
  rd := fun I q => by obtain ⟨its, rv, p, _⟩ := I.tuple q; exact ⟨its, rv, p⟩
  inj := fun I q q' => I.tuple_inj q q'
section
variable {prog : Program} {w : World} {A : Around} {E : Value → Shared → Prop} {s : Shared} (K1 K2 : Kd)
variable {K1 K2}
variable {z TI TO i1 i2 l1 l2 : Addr} {k1 k2 : Nat} {xs ys : Array Value} {x y a b : Value}
theorem zipK_next_item {Q : Value → Shared → Prop} (D : ZipApart z TI TO i1 i2 l1 l2) (hz : IsZip s.heap z TI TO .none) (hTI : IsPair s.heap TI (.ref i1) (.ref i2)) (hTO : IsPair s.heap TO a b)
    (h1 : K1.it s.heap i1 l1 k1) (h2 : K2.it s.heap i2 l2 k2) (hl1 : K1.is s.heap l1 xs) (hl2 : K2.is s.heap l2 ys) (hx : xs[k1]? = some x) (hy : ys[k2]? = some y)
    (hQ : ∀ h', IsZip h' z TI TO (rawInt s.heap.objs.size) → IsPair h' TO x y → K1.it h' i1 l1 (k1 + 1) → K2.it h' i2 l2 (k2 + 1) → IsPair h' s.heap.objs.size x y →
      (∀ c o, c ≠ z → c ≠ TO → c ≠ i1 → c ≠ i2 → s.heap.get? c = some o → h'.get? c = some o) → Q (.ref s.heap.objs.size) { s with heap := h' }) :
    wpAny (model prog w) A (Builtin.«zip.__next__» ⟨[.ref z], []⟩) (fun fin s' => ∃ v, fin = .done (.ret v) ∧ Q v s') E s := by
  show wpAny _ _ (field (.ref z) 2 >>= _) _ _ _
  refine wpAny_bind (wpAny_field hz rfl (x := .bool false) rfl ?_)
  show wpAny _ _ (field (.ref z) 3 >>= _) _ _ _
  refine wpAny_bind (wpAny_field hz rfl (x := .ref TI) rfl (wpAny_bind (wpAny_seqItems hTI rfl ?_)))
  show wpAny _ _ (Builtin.SmallTypes.ownedTupleIsFree (.ref z) >>= _) _ _ _
  refine wpAny_bind ?_
  unfold Builtin.SmallTypes.ownedTupleIsFree
  refine wpAny_bind (wpAny_field hz rfl (x := .none) rfl (wpAny_pure ?_))
  simp only [if_true]
  refine wpAny_bind (wpAny_rule (wpAny_bind (wpAny_field hz rfl (x := .ref TO) rfl (wpAny_bind (wpAny_setField_rec hz (by simp) fun g1 hz1 d1 => wpAny_bind ?_)))))
  replace hz1 : IsZip g1 z TI TO .ellipsis := hz1
  simp only [List.zipIdx_cons, List.zipIdx_nil, List.forIn_cons, List.forIn_nil]
  refine wpAny_bind (wpAny_bind (wpAny_onRaise ?_))
  show wpAny _ _ (Builtin.SmallTypes.nextOf (.ref i1) >>= _) _ _ _
  refine wpAny_bind (K1.item (K1.itE h1 d1.extBut D.i1z) (K1.isE hl1 d1.extBut D.l1z) hx fun g2 j1 d2 => wpAny_pure ?_)
  have o2 : IsPair g2 TO a b := d2.extBut _ _ D.TOi1 (d1.extBut _ _ D.TOz hTO)
  refine wpAny_bind (wpAny_seqItems o2 rfl (wpAny_bind (wpAny_updateSeq_pair o2 fun g3 o3 d3 => ?_)))
  replace o3 : IsPair g3 TO x b := o3
  refine wpAny_bind (wpAny_letGo (wpAny_pure (wpAny_bind (wpAny_bind (wpAny_onRaise ?_)))))
  show wpAny _ _ (Builtin.SmallTypes.nextOf (.ref i2) >>= _) _ _ _
  refine wpAny_bind (K2.item (K2.itE (K2.itE (K2.itE h2 d1.extBut D.i2z) d2.extBut D.i12.symm) d3.extBut D.TOi2.symm) (K2.isE (K2.isE (K2.isE hl2 d1.extBut D.l2z) d2.extBut D.l2i1) d3.extBut D.l2TO) hy fun g4 j2 d4 => wpAny_pure ?_)
  have o4 : IsPair g4 TO x b := d4.extBut _ _ D.TOi2 o3
  refine wpAny_bind (wpAny_seqItems o4 rfl (wpAny_bind (wpAny_updateSeq_pair o4 fun g5 o5 d5 => ?_)))
  replace o5 : IsPair g5 TO x y := o5
  refine wpAny_bind (wpAny_letGo (wpAny_pure (wpAny_pure (wpAny_bind (wpAny_seqItems o5 rfl (wpAny_bind (wpAny_newTuple ?_)))))))
  have hsz : g5.objs.size = s.heap.objs.size := by rw [d5.1, d4.1, d3.1, d2.1, d1.1]
  have kz : ∀ {c o}, c ≠ TO → c ≠ i1 → c ≠ i2 → g1.get? c = some o → g5.get? c = some o := fun c1 c2 c3 e => d5.extBut _ _ c1 (d4.extBut _ _ c3 (d3.extBut _ _ c1 (d2.extBut _ _ c2 e)))
  have hz5 : IsZip g5 z TI TO .ellipsis := kz D.TOz.symm D.i1z.symm D.i2z.symm hz1
  have f1 : K1.it g5 i1 l1 (k1 + 1) := K1.itE (K1.itE (K1.itE j1 d3.extBut D.TOi1.symm) d4.extBut D.i12) d5.extBut D.TOi1.symm
  have f2 : K2.it g5 i2 l2 (k2 + 1) := K2.itE j2 d5.extBut D.TOi2.symm
  have hzlt : z < g5.objs.size := Heap.lt_size hz5
  show wpAny _ _ (Builtin.SmallTypes.ownedTupleHandOut (.ref z) (.ref g5.objs.size) >>= _) _ _ _
  refine wpAny_bind ?_
  unfold Builtin.SmallTypes.ownedTupleHandOut
  have hz6 : IsZip (g5.push { cls := .type "tuple", data := .seq #[x, y] }) z TI TO .ellipsis := Heap.get?_push_of_some _ hz5
  refine wpAny_bind (wpAny_setField_rec hz6 (by simp) fun g7 hz7 d7 => ?_)
  replace hz7 : IsZip g7 z TI TO (rawInt g5.objs.size) := hz7
  refine wpAny_setField_rec hz7 (by simp) fun g8 hz8 d8 => ?_
  replace hz8 : IsZip g8 z TI TO (rawInt g5.objs.size) := hz8
  have up : ∀ c o, c ≠ z → g5.get? c = some o → g8.get? c = some o := fun c o c1 e => d8.extBut _ _ c1 (d7.extBut _ _ c1 (Heap.get?_push_of_some _ e))
  have hT : IsPair g8 g5.objs.size x y := d8.extBut _ _ (Nat.ne_of_gt hzlt) (d7.extBut _ _ (Nat.ne_of_gt hzlt) (Heap.get?_push_size _ rfl))
  rw [hsz] at hz8 hT
  refine wpAny_pure ⟨_, rfl, ?_⟩
  show Q (.ref g5.objs.size) _
  rw [hsz]
  exact hQ g8 hz8 (up _ _ D.TOz o5) (K1.itA f1 fun o e => up _ o D.i1z e) (K2.itA f2 fun o e => up _ o D.i2z e) hT fun c o c1 c2 c3 c4 e => up c o c1 (kz c2 c3 c4 (d1.extBut _ _ c1 e))
theorem zipK_next_end {Q : Fin → Shared → Prop} (hh : A.handled = none) (D : ZipApart z TI TO i1 i2 l1 l2) (hz : IsZip s.heap z TI TO .none) (hTI : IsPair s.heap TI (.ref i1) (.ref i2)) (hTO : IsPair s.heap TO a b)
    (h1 : K1.it s.heap i1 l1 k1) (h2 : K2.it s.heap i2 l2 k2) (hl1 : K1.is s.heap l1 xs) (hl2 : K2.is s.heap l2 ys) (hend : xs[k1]? = none ∨ ys[k2]? = none)
    (hE : ∀ h' e, (∀ c o, c ≠ z → c ≠ TO → c ≠ i1 → c ≠ i2 → s.heap.get? c = some o → h'.get? c = some o) → (∃ o, h'.get? e = some o ∧ o.cls = .type "StopIteration") → E (.ref e) { s with heap := h' }) :
    wpAny (model prog w) A (Builtin.«zip.__next__» ⟨[.ref z], []⟩) Q E s := by
  show wpAny _ _ (field (.ref z) 2 >>= _) _ _ _
  refine wpAny_bind (wpAny_field hz rfl (x := .bool false) rfl ?_)
  show wpAny _ _ (field (.ref z) 3 >>= _) _ _ _
  refine wpAny_bind (wpAny_field hz rfl (x := .ref TI) rfl (wpAny_bind (wpAny_seqItems hTI rfl ?_)))
  show wpAny _ _ (Builtin.SmallTypes.ownedTupleIsFree (.ref z) >>= _) _ _ _
  refine wpAny_bind ?_
  unfold Builtin.SmallTypes.ownedTupleIsFree
  refine wpAny_bind (wpAny_field hz rfl (x := .none) rfl (wpAny_pure ?_))
  simp only [if_true]
  refine wpAny_bind (wpAny_rule (wpAny_bind (wpAny_field hz rfl (x := .ref TO) rfl (wpAny_bind (wpAny_setField_rec hz (by simp) fun g1 hz1 d1 => wpAny_bind ?_)))))
  replace hz1 : IsZip g1 z TI TO .ellipsis := hz1
  simp only [List.zipIdx_cons, List.zipIdx_nil, List.forIn_cons, List.forIn_nil]
  refine wpAny_bind (wpAny_bind (wpAny_onRaise ?_))
  show wpAny _ _ (Builtin.SmallTypes.nextOf (.ref i1) >>= _) _ _ _
  cases hx : xs[k1]? with
  | none =>
    refine wpAny_bind (K1.fin hh (K1.itE h1 d1.extBut D.i1z) (K1.isE hl1 d1.extBut D.l1z) hx fun g2 e d2 he => ?_)
    obtain ⟨oe, hoe, hce⟩ := he
    have hz2 : IsZip g2 z TI TO .ellipsis := d2 _ _ D.i1z.symm hz1
    have hez : e ≠ z := fun x => by subst x; rw [hz2] at hoe; cases hoe; simp at hce
    exact wpAny_setField_rec hz2 (by simp) fun g3 _ d3 => hE g3 e (fun c o c1 _ c3 _ x => d3.extBut _ _ c1 (d2 _ _ c3 (d1.extBut _ _ c1 x))) ⟨oe, d3.extBut _ _ hez hoe, hce⟩
  | some x =>
    have hy : ys[k2]? = none := by rcases hend with h | h; rw [hx] at h; cases h; exact h
    refine wpAny_bind (K1.item (K1.itE h1 d1.extBut D.i1z) (K1.isE hl1 d1.extBut D.l1z) hx fun g2 j1 d2 => wpAny_pure ?_)
    have o2 : IsPair g2 TO a b := d2.extBut _ _ D.TOi1 (d1.extBut _ _ D.TOz hTO)
    refine wpAny_bind (wpAny_seqItems o2 rfl (wpAny_bind (wpAny_updateSeq_pair o2 fun g3 o3 d3 => ?_)))
    refine wpAny_bind (wpAny_letGo (wpAny_pure (wpAny_bind (wpAny_bind (wpAny_onRaise ?_)))))
    show wpAny _ _ (Builtin.SmallTypes.nextOf (.ref i2) >>= _) _ _ _
    refine wpAny_bind (K2.fin hh (K2.itE (K2.itE (K2.itE h2 d1.extBut D.i2z) d2.extBut D.i12.symm) d3.extBut D.TOi2.symm) (K2.isE (K2.isE (K2.isE hl2 d1.extBut D.l2z) d2.extBut D.l2i1) d3.extBut D.l2TO) hy fun g4 e d4 he => ?_)
    obtain ⟨oe, hoe, hce⟩ := he
    have hz4 : IsZip g4 z TI TO .ellipsis := d4 _ _ D.i2z.symm (d3.extBut _ _ D.TOz.symm (d2.extBut _ _ D.i1z.symm hz1))
    have hez : e ≠ z := fun x => by subst x; rw [hz4] at hoe; cases hoe; simp at hce
    exact wpAny_setField_rec hz4 (by simp) fun g5 _ d5 => hE g5 e (fun c o c1 c2 c3 c4 x => d5.extBut _ _ c1 (d4 _ _ c4 (d3.extBut _ _ c2 (d2.extBut _ _ c3 (d1.extBut _ _ c1 x))))) ⟨oe, d5.extBut _ _ hez hoe, hce⟩
theorem pyNext_zipK_item {Q : Option Value → Shared → Prop} (D : ZipApart z TI TO i1 i2 l1 l2) (hz : IsZip s.heap z TI TO .none) (hTI : IsPair s.heap TI (.ref i1) (.ref i2)) (hTO : IsPair s.heap TO a b)
    (h1 : K1.it s.heap i1 l1 k1) (h2 : K2.it s.heap i2 l2 k2) (hl1 : K1.is s.heap l1 xs) (hl2 : K2.is s.heap l2 ys) (hx : xs[k1]? = some x) (hy : ys[k2]? = some y)
    (hQ : ∀ h', IsZip h' z TI TO (rawInt s.heap.objs.size) → IsPair h' TO x y → K1.it h' i1 l1 (k1 + 1) → K2.it h' i2 l2 (k2 + 1) → IsPair h' s.heap.objs.size x y →
      (∀ c o, c ≠ z → c ≠ TO → c ≠ i1 → c ≠ i2 → s.heap.get? c = some o → h'.get? c = some o) → Q (some (.ref s.heap.objs.size)) { s with heap := h' }) :
    wpAny (model prog w) A (pyNext (.ref z)) Q E s := by
  have hT : s.TypeIs (.ref z) "zip" := ⟨_, hz, rfl⟩
  unfold pyNext
  exact wpAny_bind (wpAny_attempt (wpAny_callSpecial?_slot (name := Str.ofString "__next__") hT F.slot_zip_next (wpAny_call_entry F.slot_zip_next hT F.entry_zip_next
    (zipK_next_item D hz hTI hTO h1 h2 hl1 hl2 hx hy fun h' a1 a2 a3 a4 a5 a7 => wpAny_pure (hQ h' a1 a2 a3 a4 a5 a7)) (F.args_zip_next_1 _))))
theorem pyNext_zipK_end {Q : Option Value → Shared → Prop} (hh : A.handled = none) (D : ZipApart z TI TO i1 i2 l1 l2) (hz : IsZip s.heap z TI TO .none) (hTI : IsPair s.heap TI (.ref i1) (.ref i2)) (hTO : IsPair s.heap TO a b)
    (h1 : K1.it s.heap i1 l1 k1) (h2 : K2.it s.heap i2 l2 k2) (hl1 : K1.is s.heap l1 xs) (hl2 : K2.is s.heap l2 ys) (hend : xs[k1]? = none ∨ ys[k2]? = none)
    (hQ : ∀ h', (∀ c o, c ≠ z → c ≠ TO → c ≠ i1 → c ≠ i2 → s.heap.get? c = some o → h'.get? c = some o) → Q none { s with heap := h' }) : wpAny (model prog w) A (pyNext (.ref z)) Q E s := by
  have hT : s.TypeIs (.ref z) "zip" := ⟨_, hz, rfl⟩
  unfold pyNext
  refine wpAny_bind (wpAny_attempt (wpAny_callSpecial?_slot (name := Str.ofString "__next__") hT F.slot_zip_next (wpAny_call_entry F.slot_zip_next hT F.entry_zip_next
    (zipK_next_end hh D hz hTI hTO h1 h2 hl1 hl2 hend fun h' e hk he => ?_) (F.args_zip_next_1 _))))
  obtain ⟨o, ho, hc⟩ := he
  exact wpAny_bind (wpAny_isInstance (T := "StopIteration") (b := true) ⟨o, ho, hc⟩ isSubtype_stop (wpAny_pure (hQ _ hk)))
end
/-! the zip object -/
abbrev zk1 (K1 : Kd) (h : Heap) (l1 : Addr) : Heap := h.push { cls := .type K1.cls, data := .fields #[.ref l1, .int 0 0] }
abbrev zk2 (K1 K2 : Kd) (h : Heap) (l1 l2 : Addr) : Heap := (zk1 K1 h l1).push { cls := .type K2.cls, data := .fields #[.ref l2, .int 0 0] }
abbrev zk3 (K1 K2 : Kd) (h : Heap) (l1 l2 : Addr) : Heap := (zk2 K1 K2 h l1 l2).push { cls := .type "tuple", data := .seq #[.ref h.objs.size, .ref (zk1 K1 h l1).objs.size] }
abbrev zk4 (K1 K2 : Kd) (h : Heap) (l1 l2 : Addr) : Heap := (zk3 K1 K2 h l1 l2).push { cls := .type "tuple", data := .seq #[.none, .none] }
abbrev zk5 (K1 K2 : Kd) (h : Heap) (l1 l2 : Addr) : Heap := (zk4 K1 K2 h l1 l2).push { cls := .type "zip", data := .fields #[.none, .bool false, .bool false, .ref (zk2 K1 K2 h l1 l2).objs.size, .ref (zk3 K1 K2 h l1 l2).objs.size] }
theorem meets_zipK (K1 K2 : Kd) (l1 l2 : Addr) (xs ys : Array Value) :
    Meets (Builtin.«zip.__new__» ⟨[.type "zip", .ref l1, .ref l2], []⟩) (fun _ R s => K1.is s.heap l1 xs ∧ K2.is s.heap l2 ys ∧
      R (.ok (.ret (.ref (zk4 K1 K2 s.heap l1 l2).objs.size))) { s with heap := zk5 K1 K2 s.heap l1 l2 }) :=
  .of_wp fun prog w A R s h => by
    obtain ⟨hp, g, d, tk, os⟩ := s
    obtain ⟨hl1, hl2, h⟩ := h
    have hsub := sub_zip
    have hL1 : K1.is (Shared.heap ⟨hp, g, d, tk, os⟩) l1 xs := hl1
    have hL2 : K2.is (Shared.heap ⟨hp.push { cls := .type K1.cls, data := .fields #[.ref l1, .int 0 0] }, g, d, tk, os⟩) l2 ys := K2.isP hl2 _
    wp_walk using K1.iter hL1, K2.iter hL2
    exact ⟨_, rfl, h⟩
section
variable {prog : Program} {w : World} {A : Around} {E : Value → Shared → Prop} {s : Shared}
theorem call_zipK (K1 K2 : Kd) {l1 l2 : Addr} {xs ys : Array Value} {Q : Value → Shared → Prop} (hl1 : K1.is s.heap l1 xs) (hl2 : K2.is s.heap l2 ys)
    (h : ∀ h', IsZip h' (s.heap.objs.size + 4) (s.heap.objs.size + 2) (s.heap.objs.size + 3) .none → IsPair h' (s.heap.objs.size + 2) (.ref s.heap.objs.size) (.ref (s.heap.objs.size + 1)) →
      IsPair h' (s.heap.objs.size + 3) .none .none → K1.it h' s.heap.objs.size l1 0 → K2.it h' (s.heap.objs.size + 1) l2 0 →
      (∀ c o, s.heap.get? c = some o → h'.get? c = some o) → Q (.ref (s.heap.objs.size + 4)) { s with heap := h' }) :
    wpAny (model prog w) A (call (.type "zip") [.ref l1, .ref l2]) Q E s := by
  refine callType_new F.called_zip (by decide) (F.typeCall_zip_2 _ _) (F.newCall_zip_2 _ _) (fun obj => F.args_object_init_3 obj _ _) F.entry_zip_new (meets_zipK K1 K2 l1 l2 xs ys) ⟨hl1, hl2, ?_⟩
  have z1 : (zk1 K1 s.heap l1).objs.size = s.heap.objs.size + 1 := Heap.size_push ..
  have z2 : (zk2 K1 K2 s.heap l1 l2).objs.size = s.heap.objs.size + 2 := by rw [Heap.size_push, z1]
  have z3 : (zk3 K1 K2 s.heap l1 l2).objs.size = s.heap.objs.size + 3 := by rw [Heap.size_push, z2]
  have z4 : (zk4 K1 K2 s.heap l1 l2).objs.size = s.heap.objs.size + 4 := by rw [Heap.size_push, z3]
  have p4 : ∀ {c o}, (zk4 K1 K2 s.heap l1 l2).get? c = some o → (zk5 K1 K2 s.heap l1 l2).get? c = some o := fun e => Heap.get?_push_of_some _ e
  have p3 : ∀ {c o}, (zk3 K1 K2 s.heap l1 l2).get? c = some o → (zk5 K1 K2 s.heap l1 l2).get? c = some o := fun e => p4 (Heap.get?_push_of_some _ e)
  have p2 : ∀ {c o}, (zk2 K1 K2 s.heap l1 l2).get? c = some o → (zk5 K1 K2 s.heap l1 l2).get? c = some o := fun e => p3 (Heap.get?_push_of_some _ e)
  have p1 : ∀ {c o}, (zk1 K1 s.heap l1).get? c = some o → (zk5 K1 K2 s.heap l1 l2).get? c = some o := fun e => p2 (Heap.get?_push_of_some _ e)
  have g5 : (zk5 K1 K2 s.heap l1 l2).get? (zk4 K1 K2 s.heap l1 l2).objs.size = some _ := Heap.get?_push_size _ rfl
  have g4 : (zk5 K1 K2 s.heap l1 l2).get? (zk3 K1 K2 s.heap l1 l2).objs.size = some _ := p4 (Heap.get?_push_size _ rfl)
  have g3 : (zk5 K1 K2 s.heap l1 l2).get? (zk2 K1 K2 s.heap l1 l2).objs.size = some _ := p3 (Heap.get?_push_size _ rfl)
  have g2 : (zk5 K1 K2 s.heap l1 l2).get? (zk1 K1 s.heap l1).objs.size = some { cls := .type K2.cls, data := .fields #[.ref l2, .int 0 0] } := p2 (Heap.get?_push_size _ rfl)
  have g1 : (zk5 K1 K2 s.heap l1 l2).get? s.heap.objs.size = some { cls := .type K1.cls, data := .fields #[.ref l1, .int 0 0] } := p1 (Heap.get?_push_size _ rfl)
  show _ ∧ _
  rw [z2, z3, z4] at g5
  rw [z1, z2] at g3
  rw [z3] at g4
  rw [z1] at g2
  rw [z4]
  exact ⟨⟨_, g5, rfl⟩, h _ g5 g3 g4 (K1.itN g1) (K2.itN g2) fun c o x => p1 (Heap.get?_push_of_some _ x)⟩
end
/-! the loop over it -/
def ItzK (K1 K2 : Kd) (K : PySem.W.Frag) (a b : Addr) : It :=
  ⟨fun i H => ∃ (xs ys : List V) (x y : V), K1.sq K H a xs ∧ K2.sq K H b ys ∧ xs[i]? = some x ∧ ys[i]? = some y,
    fun i H v H' => ∃ T x y, v = .ref T ∧ H T = none ∧ H' = upd H T (.tup [x, y]) ∧ (∀ xs, K1.sq K H a xs → xs[i]? = some x) ∧ ∀ ys, K2.sq K H b ys → ys[i]? = some y,
    fun i H => ∃ xs ys : List V, K1.sq K H a xs ∧ K2.sq K H b ys ∧ (xs.length ≤ i ∨ ys.length ≤ i)⟩
theorem mem5 {c z TI TO i1 i2 : Addr} (h : c ∈ [z, TI, TO, i1, i2]) : c = z ∨ c = TI ∨ c = TO ∨ c = i1 ∨ c = i2 := by simpa using h
theorem turn_zipK (K1 K2 : Kd) {P : Program} {w : World} {K : PySem.W.Frag} {elts : List Expr} {kk : Nat} {tpos : Pos} {a b z TI TO i1 i2 : Addr} (D : ZipApart z TI TO i1 i2 a b) :
    Turn P w K (.Tuple elts kk tpos) (ItzK K1 K2 K a b) [z, TI, TO, i1, i2] z (fun i h => IsZip h z TI TO .none ∧ IsPair h TI (.ref i1) (.ref i2) ∧ (∃ x y, IsPair h TO x y) ∧ K1.it h i1 a i ∧ K2.it h i2 b i) where
  mem := by simp
  obj := fun i h st c hc => by
    obtain ⟨hz, hTI, ⟨x, y, hTO⟩, h1, h2⟩ := st
    obtain ⟨o1, f1, e1, d1⟩ := K1.itD h1
    obtain ⟨o2, f2, e2, d2⟩ := K2.itD h2
    rcases mem5 hc with q | q | q | q | q
    · rw [q]; exact ⟨_, hz, fun v q => nomatch q⟩
    · rw [q]; exact ⟨_, hTI, fun v q => nomatch q⟩
    · rw [q]; exact ⟨_, hTO, fun v q => nomatch q⟩
    · rw [q]; exact ⟨o1, e1, fun v q => by rw [d1] at q; cases q⟩
    · rw [q]; exact ⟨o2, e2, fun v q => by rw [d2] at q; cases q⟩
  keep := fun i h h' st k => by
    obtain ⟨hz, hTI, ⟨x, y, hTO⟩, h1, h2⟩ := st
    exact ⟨k z (by simp) _ hz, k TI (by simp) _ hTI, ⟨x, y, k TO (by simp) _ hTO⟩, K1.itA h1 fun o q => k i1 (by simp) o q, K2.itA h2 fun o q => k i2 (by simp) o q⟩
  item := by
    intro X hP hw hK hc i pins s σ H E I hf st hg
    subst hP hw hK
    obtain ⟨hz, hTI, ⟨x0, y0, hTO⟩, h1, h2⟩ := st
    obtain ⟨xs, ys, x, y, hqx, hqy, hx, hy⟩ := hg
    obtain ⟨its, rv, p⟩ := K1.rd I hqx
    obtain ⟨its2, rv2, p2⟩ := K2.rd I hqy
    obtain ⟨u, hu, ru⟩ := rv.get hx
    obtain ⟨u2, hu2, ru2⟩ := rv2.get hy
    have hzl : z < s.heap.objs.size := Heap.lt_size hz
    refine pyNext_zipK_item D hz hTI hTO h1 h2 p p2 (x := u) (y := u2) (by simpa using hu) (by simpa using hu2) fun h' z' TO' h1' h2' hT hk => ?_
    refine ⟨_, rfl, wpAny_letOwnedTupleGo_zip (s := { s with heap := h' }) z' fun h'' z'' sb => ?_⟩
    have hT2 : h''.get? s.heap.objs.size = some { cls := .type "tuple", data := .seq #[u, u2] } := (sb.2 _ (Nat.ne_of_gt hzl)).trans hT
    have new : ObjOk X.prog X.w (upd H s.heap.objs.size (.tup [x, y])) h'' s.heap.objs.size (.tup [x, y]) := ⟨by show 2 ≤ sizeLine; decide, [u, u2], .cons ru (.cons ru2 .nil), ⟨_, hT2, rfl, _, rfl⟩⟩
    have I1 : Inv X pins σ (upd H s.heap.objs.size (.tup [x, y])) { s with heap := h'' } :=
      I.turnedNew (t' := s.toks) (ch := [z, TI, TO, i1, i2]) (fun c o hb q => (sb.2 c (fun q' => hb (by simp [q']))).trans (hk c o (fun q' => hb (by simp [q'])) (fun q' => hb (by simp [q'])) (fun q' => hb (by simp [q'])) (fun q' => hb (by simp [q'])) q)) hf (Nat.le_refl _) new
    refine ⟨.ref s.heap.objs.size, _, I1, rfl, ⟨_, x, y, rfl, I.hok.fresh (Nat.le_refl _), rfl, fun l hl => by rw [K1.inj I hl hqx]; exact hx, fun l hl => by rw [K2.inj I hl hqy]; exact hy⟩,
      ⟨z'', (sb.2 _ D.TIz).trans (hk _ _ D.TIz D.TITO D.TIi1 D.TIi2 hTI), ⟨u, u2, (sb.2 _ D.TOz).trans TO'⟩, K1.itA h1' fun o q => (sb.2 _ D.i1z).trans q, K2.itA h2' fun o q => (sb.2 _ D.i2z).trans q⟩, fun c hcm => ?_⟩
    have hlt : c < s.heap.objs.size := by
      obtain ⟨o1, f1, e1, _⟩ := K1.itD h1
      obtain ⟨o2, f2, e2, _⟩ := K2.itD h2
      rcases mem5 hcm with q | q | q | q | q
      · rw [q]; exact hzl
      · rw [q]; exact Heap.lt_size hTI
      · rw [q]; exact Heap.lt_size hTO
      · rw [q]; exact Heap.lt_size e1
      · rw [q]; exact Heap.lt_size e2
    rw [upd_ne (Nat.ne_of_lt hlt)]
    exact (hf c hcm).1
  done := by
    intro X hP hw hK hc i pins s σ H E I hf st hg
    subst hP hw hK
    obtain ⟨hz, hTI, ⟨x0, y0, hTO⟩, h1, h2⟩ := st
    obtain ⟨xs, ys, hqx, hqy, hend⟩ := hg
    obtain ⟨its, rv, p⟩ := K1.rd I hqx
    obtain ⟨its2, rv2, p2⟩ := K2.rd I hqy
    have l1 := rv.length
    have l2 := rv2.length
    have he : its.toArray[i]? = none ∨ its2.toArray[i]? = none := by
      rcases hend with q | q
      · exact .inl (by simp; omega)
      · exact .inr (by simp; omega)
    exact pyNext_zipK_end (I.ok.hd hc) D hz hTI hTO h1 h2 p p2 he fun h' hk => ⟨rfl, I.turnedL (t' := s.toks) (ch := [z, TI, TO, i1, i2]) (fun c o hb q =>
      hk c o (fun q' => hb (by simp [q'])) (fun q' => hb (by simp [q'])) (fun q' => hb (by simp [q'])) (fun q' => hb (by simp [q'])) q) hf⟩
  self := fun A i s Q E st h => wpAny_pyIter_zip st.1 h
def iZipK (K : PySem.W.Frag) (ta : TA) : TI := fun σ H R => ta σ H fun vs H1 => ∃ (K1 K2 : Kd) (a b : Addr) (xs ys : List V), vs = [.ref a, .ref b] ∧ K1.sq K H1 a xs ∧ K2.sq K H1 b ys ∧ R (ItzK K1 K2 K a b) H1
theorem pi_zipK {X : Cx} {e e2 : Expr} {ta : TA} {p pos tpos : Pos} {elts : List Expr} {kk : Nat} (hg : Gl X "zip") (hm : X.mg "zip" = none) (ha : PA X [e, e2] ta)
    (hs : starEach [e, e2] X.env = (false, eval e X.env) :: starEach [e2] X.env := by rfl) (hpl : (backTo pos (starEach [e2] X.env)).any (·.1) = false := by rfl) :
    PI X (.Tuple elts kk tpos) (.Call (.Name "zip" p) [e, e2] [] pos) (iZipK X.K ta) := by
  refine ⟨fun pins s σ H R I h => ?_⟩
  refine Call_ (ld_blt I hg hm PyProof.Rows.boot_zip (PyProof.Rows.callWith_type1 (thn (ha.run pos pins s σ H _ I h) fun us s1 ⟨vs, H1, I1, r1, q1⟩ => ?_) hs hpl))
  obtain ⟨K1, K2, a, b, xs, ys, ex, hqx, hqy, q⟩ := q1
  subst ex
  cases r1 with
  | cons r rr =>
    cases rr with
    | cons r' rr =>
      cases rr
      cases r
      cases r'
      have fresh5 : ∀ c, c ∈ [s1.heap.objs.size + 4, s1.heap.objs.size + 2, s1.heap.objs.size + 3, s1.heap.objs.size, s1.heap.objs.size + 1] → FpOk X pins H1 c := fun c hcm => by
        have hle : s1.heap.objs.size ≤ c := by
          rcases mem5 hcm with z | z | z | z | z
          · rw [z]; exact Nat.le_add_right _ _
          · rw [z]; exact Nat.le_add_right _ _
          · rw [z]; exact Nat.le_add_right _ _
          · rw [z]; exact Nat.le_refl _
          · rw [z]; exact Nat.le_add_right _ _
        exact I1.fpOk hle (I1.hok.fresh hle)
      obtain ⟨its, rv, p1⟩ := K1.rd I1 hqx
      obtain ⟨its2, rv2, p2⟩ := K2.rd I1 hqy
      refine call_zipK K1 K2 p1 p2 fun h' hz hTI hTO h1 h2 hk => wpAny_pyIter_zip hz ?_
      have I2 : Inv X pins σ H1 { s1 with heap := h' } := I1.kept (t' := s1.toks) hk
      exact ⟨s1.heap.objs.size + 4, [s1.heap.objs.size + 4, s1.heap.objs.size + 2, s1.heap.objs.size + 3, s1.heap.objs.size, s1.heap.objs.size + 1], _, _, H1, rfl, I2, turn_zipK K1 K2 (PySem.W.ktu_apart s1.heap.objs.size a b (K1.isL p1) (K2.isL p2)), ⟨hz, hTI, ⟨_, _, hTO⟩, h1, h2⟩, fresh5, q⟩
end Br
set_option maxHeartbeats 1000000
/-! BrE3: displays, tests, calls, what loops walk. -/
namespace Br
open PySem PySem.Spec PyProof.Rows L2

theorem ER.bind_assoc {α β γ : Type} (r : ER α) (f : α → Env → ER β) (g : β → Env → ER γ) : (r.bind f).bind g = r.bind fun a ρ => (f a ρ).bind g := by cases r <;> rfl

section
variable {C : Cb} {Φ : Nat → List LV → CR} {W : WX} {X : Cx} {a b c e : Expr} {es : List Expr} {pos p : Pos} {x : Str}
/-! ### displays -/
theorem e_tup {k : Nat} {irs : List Ex} (h : PA X es (tEs C Φ W irs)) : PE X (.Tuple es k pos) (tE C Φ W (.tup irs)) := (pe_tup h).weak fun σ H Q q => by
  obtain ⟨ρ, F, s, q⟩ := q
  unfold evE at q
  refine ⟨ρ, F, s, q.bind.imp fun ps ρ1 F1 H1 e1 s1 k1 xs r => ?_⟩
  split at k1
  · rename_i hl
    refine ⟨by rw [← r.length]; exact lim_line hl, fun p hf => ?_⟩
    have e2 : Same F1 (upd F1 p (.tup xs)) := same_updF (s1.fnone hf)
    exact k1 _ _ e2 (s1.alloc hf _) _ ⟨p, xs, rfl, .inl (.inl upd_same), r.mono e2⟩
  · exact False.elim k1
theorem l_lst {irs : List Ex} (h : PA X es (tEs C Φ W irs)) : PE X (.List es pos) (tL' C Φ W (.lst irs)) := (pe_lst h).weak fun σ H Q q => by
  obtain ⟨ρ, F, s, q⟩ := q
  have q : PostL C W σ F ((evE Φ (.lst irs) ρ).bind fun p ρ1 => .ok (.own p) ρ1) fun _ _ _ H' v => Q v H' := q
  have q := q.bindV
  unfold evE at q
  refine ⟨ρ, F, s, q.bind.imp fun ps ρ1 F1 H1 e1 s1 k1 xs r => ?_⟩
  split at k1
  · rename_i hl
    refine ⟨by rw [← r.length]; exact lim_line hl, fun p hf => ?_⟩
    exact k1 F1 H1 (Same.refl F1) s1 F1 _ _ (Same.refl F1) (s1.pushNew hf ⟨xs, upd_same, r⟩)
  · exact False.elim k1
theorem e_lst {irs : List Ex} (h : PE X e (tL' C Φ W (.lst irs))) : PE X e (tE C Φ W (.lst irs)) := e_ofL h fun ρ => by
  show evE Φ (.lst irs) ρ = ER.bind ((evE Φ (.lst irs) ρ).bind fun p ρ1 => ER.ok (LV.own p) ρ1) (fun l ρ => ER.of l.pv ρ)
  rw [ER.bind_assoc]
  cases evE Φ (.lst irs) ρ <;> rfl
theorem l_dnew : PE X (.Dict [] [] pos) (tL' C Φ W .dnew) := pe_dnewK.weak fun σ H Q q => by
  obtain ⟨ρ, F, s, q⟩ := q
  exact fun p hf => q F _ _ (Same.refl F) (s.pushNew hf ⟨[], upd_same, rfl, List.nodup_nil, .nil⟩)
theorem e_dnew (h : PE X e (tL' C Φ W .dnew)) : PE X e (tE C Φ W .dnew) := e_ofL h fun ρ => by
  unfold evE
  rfl

/-! ### and, or, not, if -/
theorem bl_of {K : PySem.W.Frag} {F : Hp} {b : Bool} {v : V} (h : Rep K F (.bl b) v) : v = .bl b := h
theorem e_one {op} {ir : Ex} (h : PE X a (tE C Φ W ir)) : PE X (.BoolOp op [a] pos) (tE C Φ W ir) := pe_one h
theorem e_and {ia ib : Ex} (ha : PE X a (tE C Φ W ia)) (hb : PE X (.BoolOp .And (b :: es) pos) (tE C Φ W ib)) : PE X (.BoolOp .And (a :: b :: es) pos) (tE C Φ W (.and ia ib)) := (pe_and ha hb).weak fun σ H Q q => by
  obtain ⟨ρ, F, s, q⟩ := q
  unfold evE at q
  refine ⟨ρ, F, s, q.bind.imp fun p ρ1 F1 H1 e1 s1 k1 v r => ?_⟩
  cases p with
  | bl t =>
    refine ⟨t, r, ?_⟩
    cases t with
    | true => exact ⟨ρ1, F1, s1, k1⟩
    | false => exact k1 F1 H1 (Same.refl F1) s1 _ rfl
  | _ => exact False.elim k1
theorem e_or {ia ib : Ex} (ha : PE X a (tE C Φ W ia)) (hb : PE X (.BoolOp .Or (b :: es) pos) (tE C Φ W ib)) : PE X (.BoolOp .Or (a :: b :: es) pos) (tE C Φ W (.or ia ib)) := (pe_or ha hb).weak fun σ H Q q => by
  obtain ⟨ρ, F, s, q⟩ := q
  unfold evE at q
  refine ⟨ρ, F, s, q.bind.imp fun p ρ1 F1 H1 e1 s1 k1 v r => ?_⟩
  cases p with
  | bl t =>
    refine ⟨t, r, ?_⟩
    cases t with
    | false => exact ⟨ρ1, F1, s1, k1⟩
    | true => exact k1 F1 H1 (Same.refl F1) s1 _ rfl
  | _ => exact False.elim k1
theorem e_not {ia : Ex} (ha : PE X a (tE C Φ W ia)) : PE X (.UnaryOp .Not a pos) (tE C Φ W (.not ia)) := (pe_not ha).weak fun σ H Q q => by
  obtain ⟨ρ, F, s, q⟩ := q
  unfold evE at q
  refine ⟨ρ, F, s, q.bind.imp fun p ρ1 F1 H1 e1 s1 k1 v r => ?_⟩
  cases p with
  | bl t => exact ⟨t, r, k1 F1 H1 (Same.refl F1) s1 _ rfl⟩
  | _ => exact False.elim k1
theorem e_ite {it : Tst} {ia ib : Ex} (hc : PT X c (tT C Φ W it)) (ha : PE X a (tE C Φ W ia)) (hb : PE X b (tE C Φ W ib)) : PE X (.IfExp c a b pos) (tE C Φ W (.ite it ia ib)) := (pe_ifExp hc ha hb).weak fun σ H Q q => by
  obtain ⟨ρ, F, s, q⟩ := q
  unfold evE at q
  refine ⟨ρ, F, s, q.bind.imp fun t ρ1 F1 H1 e1 s1 k1 => ?_⟩
  cases t with
  | true => exact ⟨ρ1, F1, s1, k1⟩
  | false => exact ⟨ρ1, F1, s1, k1⟩

/-! ### chains -/
theorem tE_chain {o1 o2 : Op} {ia ib ic : Ex} {σ : L2.St} {H : Hp} {Q : VK} (q : tE C Φ W (.chain o1 o2 ia ib ic) σ H Q) : tChain (R2of C.K o1) (R2of C.K o2) (tE C Φ W ia) (tE C Φ W ib) (tE C Φ W ic) σ H Q := by
  obtain ⟨ρ, F, s, q⟩ := q
  unfold evE at q
  refine ⟨ρ, F, s, q.bind.imp fun p ρ1 F1 H1 e1 s1 k1 x rx => ⟨ρ1, F1, s1, k1.bind.imp fun t ρ2 F2 H2 e2 s2 k2 y ry => ?_⟩⟩
  split at k2
  · rename_i ho
    refine ⟨F2, [p, t], .bl true, s2.le, ⟨x, _, rfl, Rep.b s2.le (rx.mono e2), y, _, rfl, Rep.b s2.le ry, rfl⟩, ho, fun v H3 hr => ?_⟩
    obtain ⟨F3, e3, s3, r3⟩ := hr.fro s2
    refine ⟨true, r3, ?_⟩
    rw [if_pos rfl]
    have k2 := k2.mono e3
    refine ⟨ρ2, F3, s3, k2.bind.imp fun u ρ4 F4 H4 e4 s4 k4 z rz => ?_⟩
    obtain ⟨w, hw, k4⟩ := k4.of
    refine ⟨F4, [t, u], w, s4.le, ⟨y, _, rfl, Rep.b s4.le (Rep.mono e4 (Rep.mono e3 ry)), z, _, rfl, Rep.b s4.le rz, rfl⟩, hw, fun v' H5 hr' => ?_⟩
    obtain ⟨F5, e5, s5, r5⟩ := hr'.fro s4
    exact k4 F5 H5 e5 s5 v' r5
  · rename_i ho
    refine ⟨F2, [p, t], .bl false, s2.le, ⟨x, _, rfl, Rep.b s2.le (rx.mono e2), y, _, rfl, Rep.b s2.le ry, rfl⟩, ho, fun v H3 hr => ?_⟩
    obtain ⟨F3, e3, s3, r3⟩ := hr.fro s2
    refine ⟨false, r3, ?_⟩
    rw [if_neg Bool.false_ne_true]
    exact k2 F3 H3 e3 s3 _ rfl
  · exact False.elim k2
theorem e_chain {op op' : CmpOp} {o1 o2 : Op} {ia ib ic : Ex} (ho : OpR X (compareOp op) (R2of C.K o1)) (ho' : OpR X (compareOp op') (R2of C.K o2)) (hm : lastMarks [op, op'] [b, c] = false) (ha : PE X a (tE C Φ W ia)) (hb : PE X b (tE C Φ W ib)) (hc : PE X c (tE C Φ W ic)) :
    PE X (.Compare a [op, op'] [b, c] pos) (tE C Φ W (.chain o1 o2 ia ib ic)) := (pe_chain ho ho' ha hb hc hm).weak fun _ _ _ q => tE_chain q

/-! ### tests -/
theorem tT_e {ir : Ex} {σ : L2.St} {H : Hp} {Q : Bool → Hp → Prop} (q : tT C Φ W (.e ir) σ H Q) : tE C Φ W ir σ H fun v H' => ∃ k, v = .bl k ∧ Q k H' := by
  obtain ⟨ρ, F, s, q⟩ := q
  unfold evT at q
  refine ⟨ρ, F, s, q.bind.imp fun p ρ1 F1 H1 e1 s1 k1 v r => ?_⟩
  cases p with
  | bl t => exact ⟨t, r, k1 F1 H1 (Same.refl F1) s1⟩
  | _ => exact False.elim k1
theorem t_val {ir : Ex} (h : PE X e (tE C Φ W ir)) (he : ∀ whole, isTrue e X.env whole = (do let v ← whole; standAt e.pos; holding [v] (truthy v)) := by intro _; rfl) : PT X e (tT C Φ W (.e ir)) :=
  (pt_val h he).weak fun _ _ _ q => tT_e q
theorem t_cmp {op : CmpOp} {o : Op} {ia ib : Arg} (ho : OpR X (compareOp op) (R2of C.K o)) (hm : behindInMarks op b = false) (ha : PE X a (tA1 C Φ W ia)) (hb : PE X b (tA1 C Φ W ib)) : PT X (.Compare a [op] [b] pos) (tT C Φ W (.e (.app o [ia, ib]))) :=
  (pt_cmpR ho ha hb hm).weak fun _ _ _ q => tO_2 (tE_app (tT_e q))
theorem t_cmpC {op : CmpOp} {o : Op} {ia : Arg} {v : V} (ho : OpR X (compareOp op) (fun x y H Q => y = v ∧ rOp C.K o [x] H Q)) (hm : behindInMarks op b = false) (ha : PE X a (tA1 C Φ W ia)) (hb : PE X b (tC v)) : PT X (.Compare a [op] [b] pos) (tT C Φ W (.e (.app o [ia]))) :=
  (pt_cmpR ho ha hb hm).weak fun _ _ _ q => (tO_1 (tE_app (tT_e q))).imp fun _ _ k => ⟨rfl, k⟩
theorem t_chain {op op' : CmpOp} {o1 o2 : Op} {ia ib ic : Ex} (ho : OpR X (compareOp op) (R2of C.K o1)) (ho' : OpR X (compareOp op') (R2of C.K o2)) (hm : lastMarks [op, op'] [b, c] = false) (ha : PE X a (tE C Φ W ia)) (hb : PE X b (tE C Φ W ib)) (hc : PE X c (tE C Φ W ic)) :
    PT X (.Compare a [op, op'] [b, c] pos) (tT C Φ W (.e (.chain o1 o2 ia ib ic))) := (pt_chain ho ho' ha hb hc hm).weak fun _ _ _ q => tE_chain (tT_e q)
theorem w_and1 {ia : Tst} (ha : PT X a (tT C Φ W ia)) : PW X (.BoolOp .And [a] pos) (tT C Φ W ia) := pw_and1 ha
theorem w_or1 {ia : Tst} (ha : PT X a (tT C Φ W ia)) : PW X (.BoolOp .Or [a] pos) (tT C Φ W ia) := pw_or1 ha
theorem w_and {ia ib : Tst} (ha : PT X a (tT C Φ W ia)) (hb : PW X (.BoolOp .And (b :: es) pos) (tT C Φ W ib)) : PW X (.BoolOp .And (a :: b :: es) pos) (tT C Φ W (.and ia ib)) := (pw_and ha hb).weak fun σ H Q q => by
  obtain ⟨ρ, F, s, q⟩ := q
  unfold evT at q
  refine ⟨ρ, F, s, q.bind.imp fun t ρ1 F1 H1 e1 s1 k1 => ?_⟩
  cases t with
  | true => exact ⟨ρ1, F1, s1, k1⟩
  | false => exact k1 F1 H1 (Same.refl F1) s1
theorem w_or {ia ib : Tst} (ha : PT X a (tT C Φ W ia)) (hb : PW X (.BoolOp .Or (b :: es) pos) (tT C Φ W ib)) : PW X (.BoolOp .Or (a :: b :: es) pos) (tT C Φ W (.or ia ib)) := (pw_or ha hb).weak fun σ H Q q => by
  obtain ⟨ρ, F, s, q⟩ := q
  unfold evT at q
  refine ⟨ρ, F, s, q.bind.imp fun t ρ1 F1 H1 e1 s1 k1 => ?_⟩
  cases t with
  | false => exact ⟨ρ1, F1, s1, k1⟩
  | true => exact k1 F1 H1 (Same.refl F1) s1
theorem t_not {ia : Tst} (ha : PT X a (tT C Φ W ia)) : PT X (.UnaryOp .Not a pos) (tT C Φ W (.not ia)) := (pt_not ha).weak fun σ H Q q => by
  obtain ⟨ρ, F, s, q⟩ := q
  unfold evT at q
  exact ⟨ρ, F, s, q.bind.imp fun t ρ1 F1 H1 e1 s1 k1 => k1 F1 H1 (Same.refl F1) s1⟩

/-! ### a slice with both ends -/
theorem e_sl11 (o : XO X C) {ia : Arg} {ib ic : Ex} (ha : PE X a (tA1 C Φ W ia)) (hb : PE X b (tE C Φ W ib)) (hc : PE X c (tE C Φ W ic)) {p2 : Pos} : PE X (.Subscript a (.Slice (some b) (some c) none p2) pos) (tE C Φ W (.sl2 ia ib ic)) :=
  (pe_slice sr_slc ha (po_some hb) (po_some hc)).weak fun σ H Q q => by
    obtain ⟨ρ, F, s, q⟩ := q
    unfold evE at q
    refine ⟨ρ, F, s, q.bind.imp fun av ρ1 F1 H1 e1 s1 k1 x rx => ⟨ρ1, F1, s1, k1.bind.imp fun p ρ2 F2 H2 e2 s2 k2 y ry => ?_⟩⟩
    cases p with
    | int i =>
      refine ⟨i, ry, ρ2, F2, s2, k2.bind.imp fun p ρ3 F3 H3 e3 s3 k3 z rz => ?_⟩
      cases p with
      | int j =>
        refine ⟨j, rz, ?_⟩
        obtain ⟨w, hw, k3⟩ := k3.of
        obtain ⟨xp, hx, hw⟩ := Option.bind_eq_some_iff.mp hw
        show rOp X.K (.slc true true) [x, .int i, .int j] H3 Q
        rw [← o.K]
        refine ⟨F3, [xp.dn, .int i, .int j], w, s3.le, ⟨x, _, rfl, (AVR.b s3 ((rx.mono e2).mono e3) hx).dn, _, _, rfl, rfl, _, _, rfl, rfl, rfl⟩, hw, fun v H4 hr => ?_⟩
        obtain ⟨F4, e4, s4, r4⟩ := hr.fro s3
        exact k3 F4 H4 e4 s4 v r4
      | _ => exact False.elim k3
    | _ => exact False.elim k2

/-! ### calls -/
theorem pe_callS0 {CX : CXT} {k : Nat} {f : Addr} {fd : FuncData} {ps : List Str} {sp : Sp} {E : L2.St → XK} (F : FnOk X.prog X.w X.K X.mg X.base CX k f fd ps sp) (hr : Room k X.A) (hg : Gl X x) (hm : X.mg x = some (.ref f)) (hk : PySem.W.keepIn X.K (.ref f) = true) (hb : Binds X.K fd ps []) (hx : ∀ σ, PassesAt CX X σ (E σ))
    (hdb : (x == ("__debug__" : Str)) = false := by decide) : PE X (.Call (.Name x p) [] [] pos) (tCallS sp E tNil) := by
  refine ⟨fun pins s σ H Q I h => ?_⟩
  refine wpAny_Call_Name_kw (ld_glob I hg hm ?_ hdb)
  exact PySem.W.callWith_K0 I.kIn hk (run_fnS (us := []) F hr hb (hx σ) I .nil h)
theorem call_tL {j : Nat} {irs : List Arg} {σ : L2.St} {H : Hp} {Q : VK} (q : tL' C Φ W (.call j irs) σ H Q) : tCallS (spOf C.K (Φ j)) (WE W) (tAs C Φ W irs) σ H Q := by
  obtain ⟨ρ, F, s, q⟩ := q
  have q : PostL C W σ F ((evAs Φ irs ρ).bind fun avs ρ1 => callE (Φ j) avs ρ1) fun _ _ _ H' v => Q v H' := q
  refine ⟨ρ, F, s, q.bindV.imp fun avs ρ1 F1 H1 e1 s1 k1 vs rs => ?_⟩
  unfold callE at k1
  split at k1
  · rename_i ls hls
    split at k1
    · rename_i hnd
      obtain ⟨fp, sr, io⟩ := call_io s1 rs hls hnd
      refine ⟨F1, ls, fp, sr, ?_⟩
      split at k1
      · rename_i r ls' hg
        split at k1
        · rename_i hl
          try rw [hg]
          exact fun v H' F' sr' => k1 F' H' v sr'.f0 (io r v ls' F' H' sr' hl)
        · exact False.elim k1
      · rename_i cc ls' hg
        split at k1
        · rename_i hl
          try rw [hg]
          intro H' F' sr'
          exact k1 F' H' sr'.f0 (io (.fro .non) .non ls' F' H' (sr'.push rfl) hl).pop
        · exact False.elim k1
      · exact False.elim k1
    · exact False.elim k1
  · exact False.elim k1
theorem l_call {j k : Nat} {f : Addr} {fd : FuncData} {ps : List Str} {irs : List Arg} (o : XO X C) (F : FnOk X.prog X.w X.K X.mg X.base (L2.CX X.prog X.w) k f fd ps (spOf X.K (Φ j))) (hr : Room k X.A) (hg : Gl X x) (hm : X.mg x = some (.ref f)) (hk : PySem.W.keepIn X.K (.ref f) = true)
    (hb : Binds X.K fd ps []) (tk : Takes X W) (ha : PA X (e :: es) (tAs C Φ W irs)) (hdb : (x == ("__debug__" : Str)) = false := by decide) (he : starEach (e :: es) X.env = (false, eval e X.env) :: starEach es X.env := by rfl) (hpl : (backTo pos (starEach es X.env)).any (·.1) = false := by rfl) :
    PE X (.Call (.Name x p) (e :: es) [] pos) (tL' C Φ W (.call j irs)) := (pe_callS F hr hg hm hk hb (passAt tk) ha hdb he hpl).weak fun _ _ _ q => by rw [← o.K]; exact call_tL q
theorem l_call0 {j k : Nat} {f : Addr} {fd : FuncData} {ps : List Str} (o : XO X C) (F : FnOk X.prog X.w X.K X.mg X.base (L2.CX X.prog X.w) k f fd ps (spOf X.K (Φ j))) (hr : Room k X.A) (hg : Gl X x) (hm : X.mg x = some (.ref f)) (hk : PySem.W.keepIn X.K (.ref f) = true)
    (hb : Binds X.K fd ps []) (tk : Takes X W) (hdb : (x == ("__debug__" : Str)) = false := by decide) :
    PE X (.Call (.Name x p) [] [] pos) (tL' C Φ W (.call j [])) := (pe_callS0 F hr hg hm hk hb (passAt tk) hdb).weak fun _ _ _ q => by
  rw [← o.K]
  exact tAs_nil (call_tL q)
theorem e_call {j : Nat} {irs : List Arg} (h : PE X e (tL' C Φ W (.call j irs))) : PE X e (tE C Φ W (.call j irs)) := e_ofL h fun ρ => by
  show evE Φ (.call j irs) ρ = ER.bind ((evAs Φ irs ρ).bind fun avs ρ1 => callE (Φ j) avs ρ1) (fun l ρ => ER.of l.pv ρ)
  rw [ER.bind_assoc]
  unfold evE
  rfl
end

/-! ### what a loop walks -/
/-- J yields xs, all frozen (or in new pairs) -/
def Items (K : PySem.W.Frag) (F : Hp) (J : It) (xs : List PV) : Prop := ∀ i H, Same F H → (∀ p, xs[i]? = some p → J.go i H) ∧ (xs.length ≤ i → J.stop i H) ∧ ∀ x H' p, xs[i]? = some p → J.yld i H x H' →
  (H' = H ∧ Rep K F p x) ∨ ∃ a ys l, H a = none ∧ x = .ref a ∧ H' = upd H a (.tup ys) ∧ p = .tup l ∧ Reps K F l ys
def tSrc (C : Cb) (Φ : Nat → List LV → CR) (W : WX) (s : Src) : TI := fun σ H R => ∃ ρ F, SR C F ρ σ H ∧ Post C W σ F (evSrc Φ s ρ) fun xs _ F1 H1 => ∀ J, Items C.K F1 J xs → R J H1
theorem Reps.at {K : PySem.W.Frag} {F : Hp} : ∀ {ps : List PV} {xs : List V} {i : Nat} {p : PV}, Reps K F ps xs → ps[i]? = some p → ∃ x, xs[i]? = some x ∧ Rep K F p x := fun {ps} => by
  induction ps with
  | nil => intro xs i p r h; simp at h
  | cons q ps ih =>
    intro xs i p r h
    obtain ⟨v, xs', rfl, r1, r2⟩ := r
    cases i with
    | zero => simp at h; subst h; exact ⟨_, rfl, r1⟩
    | succ i =>
      obtain ⟨x, h1, h2⟩ := ih r2 (by simpa using h)
      exact ⟨x, by simpa using h1, h2⟩
section
variable {X : Cx} {C : Cb} {Φ : Nat → List LV → CR} {W : WX} {a b e tg : Expr} {pos p : Pos}
theorem items_l {K : PySem.W.Frag} {F : Hp} {l : List PV} {xs : List V} {a : Addr} (h : SqE K F a xs) (r : Reps K F l xs) : Items K F (Itl K a) l := fun i H e => by
  have q : SqL K H a xs := (Same.sqe e h).sql
  refine ⟨fun p hp => ?_, fun hl => ⟨xs, q, by rw [← r.length]; exact hl⟩, fun x H' p hp y => .inl ?_⟩
  · obtain ⟨x, h1, _⟩ := r.at hp
    exact ⟨xs, x, q, h1⟩
  · obtain ⟨x', h1, h2⟩ := r.at hp
    obtain ⟨e1, y⟩ := y
    have := y xs q
    rw [h1] at this
    cases this
    exact ⟨e1, h2⟩
theorem items_t {K : PySem.W.Frag} {F : Hp} {l : List PV} {xs : List V} {a : Addr} (h : SqT K F a xs) (r : Reps K F l xs) : Items K F (Itt K a) l := fun i H e => by
  have q : SqT K H a xs := Same.sqt e h
  refine ⟨fun p hp => ?_, fun hl => ⟨xs, q, by rw [← r.length]; exact hl⟩, fun x H' p hp y => .inl ?_⟩
  · obtain ⟨x, h1, _⟩ := r.at hp
    exact ⟨xs, x, q, h1⟩
  · obtain ⟨x', h1, h2⟩ := r.at hp
    obtain ⟨e1, y⟩ := y
    have := y xs q
    rw [h1] at this
    cases this
    exact ⟨e1, h2⟩
/-- a list or a tuple -/
def iSeq (K : PySem.W.Frag) (tl : TE) : TI := fun σ H R => tl σ H fun x H1 => ∃ a, x = .ref a ∧ (((∃ xs, SqL K H1 a xs) ∧ R (Itl K a) H1) ∨ ((∃ xs, SqT K H1 a xs) ∧ R (Itt K a) H1))
theorem pi_seq {l : Expr} {tl : TE} (hl : PE X l tl) : PI X tg l (iSeq X.K tl) := by
  refine ⟨fun pins s σ H R I h => ?_⟩
  refine thn (hl.run pins s σ H _ I h) fun v s1 ⟨x, H1, I1, r1, q1⟩ => ?_
  obtain ⟨a, e, ⟨⟨xs, hq⟩, q⟩ | ⟨⟨xs, hq⟩, q⟩⟩ := q1
  · subst e
    cases r1
    obtain ⟨its, rv, p, hz⟩ := I1.list hq
    refine wpAny_pyIter_list p.isList ?_
    refine ⟨s1.heap.objs.size, [s1.heap.objs.size], _, _, H1, rfl, I1.kept (t' := s1.toks) fun b o e => Heap.get?_push_of_some _ e, turn_list a _, ⟨_, Heap.get?_push_size _ rfl, rfl, rfl⟩, fun b hb => ?_, q⟩
    have e : b = s1.heap.objs.size := by simpa using hb
    subst e
    exact I1.fpOk (Nat.le_refl _) (I1.hok.fresh (Nat.le_refl _))
  · subst e
    cases r1
    obtain ⟨its, rv, p, hz⟩ := I1.tuple hq
    refine wpAny_pyIter_tuple (show s1.heap.IsTuple a its.toArray from p) ?_
    refine ⟨s1.heap.objs.size, [s1.heap.objs.size], _, _, H1, rfl, I1.kept (t' := s1.toks) fun b o e => Heap.get?_push_of_some _ e, turn_tuple a _, ⟨_, Heap.get?_push_size _ rfl, rfl, rfl⟩, fun b hb => ?_, q⟩
    have e : b = s1.heap.objs.size := by simpa using hb
    subst e
    exact I1.fpOk (Nat.le_refl _) (I1.hok.fresh (Nat.le_refl _))
theorem s_seq (o : XO X C) {ir : Ex} (h : PE X e (tE C Φ W ir)) : PI X tg e (tSrc C Φ W (.seq ir)) := (pi_seq h).weak fun σ H R q => by
  obtain ⟨ρ, F, s, q⟩ := q
  unfold evSrc at q
  refine ⟨ρ, F, s, q.bind.imp fun p ρ1 F1 H1 e1 s1 k1 v r => ?_⟩
  obtain ⟨xs, hx, k1⟩ := k1.of
  rw [seqOf_dn] at hx
  replace r := r.dn
  generalize p.dn = p at hx r
  cases p with
  | lst l =>
    cases hx
    obtain ⟨a, ys, rfl, hr, rr⟩ := r
    refine ⟨a, rfl, .inl ⟨⟨ys, ?_⟩, ?_⟩⟩
    · exact (by rw [← o.K]; exact (Same.sqe s1.le hr).sql)
    · rw [← o.K]; exact k1 F1 H1 (Same.refl F1) s1 _ (items_l hr rr)
  | tup l =>
    cases hx
    obtain ⟨a, ys, rfl, hr, rr⟩ := r
    refine ⟨a, rfl, .inr ⟨⟨ys, ?_⟩, ?_⟩⟩
    · rw [← o.K]; exact Same.sqt s1.le hr
    · rw [← o.K]; exact k1 F1 H1 (Same.refl F1) s1 _ (items_t hr rr)
  | xt l =>
    cases hx
    obtain ⟨a, ys, ob, rfl, hr, _, rr⟩ := r
    have hr : SqT C.K F1 a ys := .inl (.inr ⟨ob, hr⟩)
    refine ⟨a, rfl, .inr ⟨⟨ys, ?_⟩, ?_⟩⟩
    · rw [← o.K]; exact Same.sqt s1.le hr
    · rw [← o.K]; exact k1 F1 H1 (Same.refl F1) s1 _ (items_t hr rr)
  | _ => cases hx
theorem items_r {K : PySem.W.Frag} {F : Hp} {a b : Int} : Items K F (Itr a (b - a).toNat) (rngP a b) := fun i H e => by
  have hlen : (rngP a b).length = (b - a).toNat := by simp [rngP]
  refine ⟨fun p hp => ?_, fun hl => by rw [hlen] at hl; exact hl, fun x H' p hp y => .inl ?_⟩
  · have := (List.getElem?_eq_some_iff.mp hp).1
    rw [hlen] at this
    exact this
  · obtain ⟨e1, rfl⟩ := y
    have h1 := (List.getElem?_eq_some_iff.mp hp).1
    rw [hlen] at h1
    have : p = .int (a + (i : Nat)) := by
      have h2 := (List.getElem?_eq_some_iff.mp hp).2
      rw [← h2]
      simp [rngP]
    subst this
    exact ⟨e1, rfl⟩
theorem s_rng1 (hg : Gl X "range") (hm : X.mg "range" = none) {ia : Ex} (ha : PE X a (tE C Φ W ia)) (hs : starEach [a] X.env = (false, eval a X.env) :: starEach [] X.env := by rfl) : PI X tg (.Call (.Name "range" p) [a] [] pos) (tSrc C Φ W (.rng1 ia)) :=
  (pi_range1 hg hm (pa_cons ha pa_nil hs) hs).weak fun σ H R q => by
    obtain ⟨ρ, F, s, q⟩ := q
    unfold evSrc at q
    refine ⟨ρ, F, s, q.bind.imp fun p ρ1 F1 H1 e1 s1 k1 v r => ?_⟩
    cases p with
    | int j =>
      dsimp only at k1
      split at k1
      · rename_i hj
        refine ⟨j, by rw [show v = .int j from r], hj.1, hj.2, ?_⟩
        have := items_r (K := C.K) (F := F1) (a := 0) (b := j)
        rw [Int.sub_zero] at this
        exact k1 F1 H1 (Same.refl F1) s1 _ this
      · exact False.elim k1
    | _ => exact False.elim k1
theorem s_rng2 (hg : Gl X "range") (hm : X.mg "range" = none) {ia ib : Ex} (ha : PE X a (tE C Φ W ia)) (hb : PE X b (tE C Φ W ib)) (hs : starEach [a, b] X.env = (false, eval a X.env) :: starEach [b] X.env := by rfl) (hs2 : starEach [b] X.env = (false, eval b X.env) :: starEach [] X.env := by rfl) :
    PI X tg (.Call (.Name "range" p) [a, b] [] pos) (tSrc C Φ W (.rng2 ia ib)) :=
  (pi_range2 hg hm (pa_cons ha (pa_cons hb pa_nil hs2) hs) (hs.trans (by rw [hs2]; rfl)) hs2).weak fun σ H R q => by
    obtain ⟨ρ, F, s, q⟩ := q
    unfold evSrc at q
    refine ⟨ρ, F, s, q.bind.imp fun p ρ1 F1 H1 e1 s1 k1 v r => ⟨ρ1, F1, s1, k1.bind.imp fun t ρ2 F2 H2 e2 s2 k2 w r2 => ?_⟩⟩
    cases p with
    | int i =>
      cases t with
      | int j =>
        dsimp only at k2
        split at k2
        · rename_i hj
          refine ⟨i, j, by rw [show v = .int i from r, show w = .int j from r2], ⟨hj.1.1, hj.1.2, hj.2.1, hj.2.2⟩, ?_⟩
          exact k2 F2 H2 (Same.refl F2) s2 _ items_r
        · exact False.elim k2
      | _ => exact False.elim k2
    | _ => exact False.elim k2
theorem enumF_get : ∀ {l : List PV} {k i : Nat} {p : PV}, (enumF k l)[i]? = some p → ∃ q, l[i]? = some q ∧ p = .tup [.int ((k + i : Nat) : Int), q]
  | [], k, i, p, h => by simp [enumF] at h
  | q :: l, k, 0, p, h => by simp [enumF] at h; exact ⟨q, rfl, h.symm⟩
  | q :: l, k, i + 1, p, h => by
    obtain ⟨r, h1, h2⟩ := enumF_get (l := l) (k := k + 1) (i := i) (p := p) (by simpa [enumF] using h)
    refine ⟨r, by simpa using h1, ?_⟩
    rw [h2]
    congr 3
    omega
theorem enumF_len : ∀ (l : List PV) (k : Nat), (enumF k l).length = l.length
  | [], k => rfl
  | q :: l, k => by simp [enumF, enumF_len l]
theorem s_enum (o : XO X C) {elts : List Expr} {kk : Nat} {tpos : Pos} (hg : Gl X "enumerate") (hm : X.mg "enumerate" = none) {ia : Ex} (ha : PE X a (tE C Φ W ia)) (hs : starEach [a] X.env = (false, eval a X.env) :: starEach [] X.env := by rfl) :
    PI X (.Tuple elts kk tpos) (.Call (.Name "enumerate" p) [a] [] pos) (tSrc C Φ W (.enum ia)) := (pi_enum hg hm (pa_cons ha pa_nil hs) hs).weak fun σ H R q => by
  obtain ⟨ρ, F, s, q⟩ := q
  unfold evSrc at q
  refine ⟨ρ, F, s, q.bind.imp fun p ρ1 F1 H1 e1 s1 k1 v r => ?_⟩
  cases p with
  | lst l =>
    obtain ⟨a, ys, rfl, hr, rr⟩ := r
    refine ⟨a, ys, rfl, (by rw [← o.K]; exact (Same.sqe s1.le hr).sql), ?_⟩
    rw [← o.K]
    refine k1 F1 H1 (Same.refl F1) s1 _ fun i H e => ?_
    have q : SqL C.K H a ys := (Same.sqe e hr).sql
    refine ⟨fun p hp => ?_, fun hl => ⟨ys, q, by rw [← rr.length]; rw [enumP, enumF_len] at hl; exact hl⟩, fun x H' p hp y => .inr ?_⟩
    · obtain ⟨t, h1, _⟩ := enumF_get hp
      obtain ⟨x, h2, _⟩ := rr.at h1
      exact ⟨ys, x, q, h2⟩
    · obtain ⟨t, h1, rfl⟩ := enumF_get hp
      obtain ⟨x', h2, h3⟩ := rr.at h1
      obtain ⟨T, x1, rfl, hn, rfl, hy⟩ := y
      have := hy ys q
      rw [h2] at this
      cases this
      exact ⟨T, _, _, hn, rfl, rfl, rfl, .cons (by simp [Rep]) (.cons h3 .nil)⟩
  | _ => exact False.elim k1
theorem zipP_get : ∀ {l m : List PV} {i : Nat} {p : PV}, (zipP l m)[i]? = some p → ∃ q r, l[i]? = some q ∧ m[i]? = some r ∧ p = .tup [q, r]
  | [], m, i, p, h => by simp [zipP] at h
  | _ :: _, [], i, p, h => by simp [zipP] at h
  | q :: l, r :: m, 0, p, h => by simp [zipP] at h; exact ⟨q, r, rfl, rfl, h.symm⟩
  | q :: l, r :: m, i + 1, p, h => by
    obtain ⟨a, b, h1, h2, h3⟩ := zipP_get (l := l) (m := m) (i := i) (p := p) (by simpa [zipP] using h)
    exact ⟨a, b, by simpa using h1, by simpa using h2, h3⟩
theorem zipP_len : ∀ (l m : List PV), (zipP l m).length = min l.length m.length
  | [], m => by simp [zipP]
  | _ :: _, [] => by simp [zipP]
  | q :: l, r :: m => by simp [zipP, zipP_len l m]
theorem zip_items {K : PySem.W.Frag} {F : Hp} (K1 K2 : Kd) {l m : List PV} {ys zs : List V} {a b : Addr} (rr : Reps K F l ys) (rr2 : Reps K F m zs) (h1 : ∀ H, Same F H → K1.sq K H a ys) (h2 : ∀ H, Same F H → K2.sq K H b zs) :
    Items K F (ItzK K1 K2 K a b) (zipP l m) := fun i H e => by
  have q := h1 H e
  have q2 := h2 H e
  refine ⟨fun p hp => ?_, fun hl => ⟨ys, zs, q, q2, ?_⟩, fun x H' p hp y => .inr ?_⟩
  · obtain ⟨t, u, h1, h2, _⟩ := zipP_get hp
    obtain ⟨x, g1, _⟩ := rr.at h1
    obtain ⟨y, g2, _⟩ := rr2.at h2
    exact ⟨ys, zs, x, y, q, q2, g1, g2⟩
  · rw [zipP_len, rr.length, rr2.length] at hl
    omega
  · obtain ⟨t, u, h1, h2, rfl⟩ := zipP_get hp
    obtain ⟨x1, g1, g3⟩ := rr.at h1
    obtain ⟨y1, g2, g4⟩ := rr2.at h2
    obtain ⟨T, x2, y2, rfl, hn, rfl, hy1, hy2⟩ := y
    have w1 := hy1 ys q
    have w2 := hy2 zs q2
    rw [g1] at w1
    rw [g2] at w2
    cases w1
    cases w2
    exact ⟨T, _, _, hn, rfl, rfl, rfl, .cons g3 (.cons g4 .nil)⟩
theorem s_zip (o : XO X C) {elts : List Expr} {kk : Nat} {tpos : Pos} (hg : Gl X "zip") (hm : X.mg "zip" = none) {ia ib : Ex} (ha : PE X a (tE C Φ W ia)) (hb : PE X b (tE C Φ W ib)) (hs : starEach [a, b] X.env = (false, eval a X.env) :: starEach [b] X.env := by rfl) (hs2 : starEach [b] X.env = (false, eval b X.env) :: starEach [] X.env := by rfl) :
    PI X (.Tuple elts kk tpos) (.Call (.Name "zip" p) [a, b] [] pos) (tSrc C Φ W (.zip ia ib)) := (pi_zipK hg hm (pa_cons ha (pa_cons hb pa_nil hs2) hs) hs (by rw [hs2]; rfl)).weak fun σ H R q => by
  obtain ⟨ρ, F, s, q⟩ := q
  unfold evSrc at q
  refine ⟨ρ, F, s, q.bind.imp fun p ρ1 F1 H1 e1 s1 k1 v r => ⟨ρ1, F1, s1, k1.bind.imp fun t ρ2 F2 H2 e2 s2 k2 w r2 => ?_⟩⟩
  have r := (Rep.mono e2 r).dn
  replace r2 := r2.dn
  generalize p.dn = p at k2 r
  generalize t.dn = t at k2 r2
  cases p with
  | lst l =>
    cases t with
    | lst m =>
      obtain ⟨a, ys, rfl, hr, rr⟩ := r
      obtain ⟨b, zs, rfl, hr2, rr2⟩ := r2
      refine ⟨kL, kL, a, b, ys, zs, rfl, by rw [← o.K]; exact (Same.sqe s2.le hr).sql, by rw [← o.K]; exact (Same.sqe s2.le hr2).sql, ?_⟩
      rw [← o.K]
      exact k2 F2 H2 (Same.refl F2) s2 _ (zip_items kL kL rr rr2 (fun H e => (Same.sqe e hr).sql) fun H e => (Same.sqe e hr2).sql)
    | tup m =>
      obtain ⟨a, ys, rfl, hr, rr⟩ := r
      obtain ⟨b, zs, rfl, hr2, rr2⟩ := r2
      refine ⟨kL, kT, a, b, ys, zs, rfl, by rw [← o.K]; exact (Same.sqe s2.le hr).sql, by rw [← o.K]; exact Same.sqt s2.le hr2, ?_⟩
      rw [← o.K]
      exact k2 F2 H2 (Same.refl F2) s2 _ (zip_items kL kT rr rr2 (fun H e => (Same.sqe e hr).sql) fun H e => Same.sqt e hr2)
    | _ => exact False.elim k2
  | tup l =>
    cases t with
    | lst m =>
      obtain ⟨a, ys, rfl, hr, rr⟩ := r
      obtain ⟨b, zs, rfl, hr2, rr2⟩ := r2
      refine ⟨kT, kL, a, b, ys, zs, rfl, by rw [← o.K]; exact Same.sqt s2.le hr, by rw [← o.K]; exact (Same.sqe s2.le hr2).sql, ?_⟩
      rw [← o.K]
      exact k2 F2 H2 (Same.refl F2) s2 _ (zip_items kT kL rr rr2 (fun H e => Same.sqt e hr) fun H e => (Same.sqe e hr2).sql)
    | tup m =>
      obtain ⟨a, ys, rfl, hr, rr⟩ := r
      obtain ⟨b, zs, rfl, hr2, rr2⟩ := r2
      refine ⟨kT, kT, a, b, ys, zs, rfl, by rw [← o.K]; exact Same.sqt s2.le hr, by rw [← o.K]; exact Same.sqt s2.le hr2, ?_⟩
      rw [← o.K]
      exact k2 F2 H2 (Same.refl F2) s2 _ (zip_items kT kT rr rr2 (fun H e => Same.sqt e hr) fun H e => Same.sqt e hr2)
    | _ => exact False.elim k2
  | _ => exact False.elim k2
theorem s_rev (o : XO X C) (hg : Gl X "reversed") (hm : X.mg "reversed" = none) {ia : Ex} (ha : PE X a (tE C Φ W ia)) (hs : starEach [a] X.env = (false, eval a X.env) :: starEach [] X.env := by rfl) :
    PI X tg (.Call (.Name "reversed" p) [a] [] pos) (tSrc C Φ W (.rev ia)) := (RT.pi_revA hg hm ha hs).weak fun σ H R q => by
  obtain ⟨ρ, F, s, q⟩ := q
  unfold evSrc at q
  refine ⟨ρ, F, s, q.bind.imp fun p ρ1 F1 H1 e1 s1 k1 v r => ?_⟩
  obtain ⟨l', hl', k1⟩ := k1.of
  rw [seqOf_dn] at hl'
  replace r := r.dn
  have nx : ∀ l, p.dn ≠ .xt l := fun l e => by cases p <;> cases e
  generalize p.dn = p at hl' r nx
  have rv : ∀ {l : List PV} {i : Nat} {p : PV}, l.reverse[i]? = some p → i < l.length ∧ l[l.length - 1 - i]? = some p := fun {l i p} h => by
    have hi := (List.getElem?_eq_some_iff.mp h).1
    rw [List.length_reverse] at hi
    exact ⟨hi, by rw [List.getElem?_reverse hi] at h; exact h⟩
  cases p with
  | lst l =>
    cases hl'
    obtain ⟨a, ys, rfl, hr, rr⟩ := r
    refine ⟨a, ys, rfl, .inl ⟨(by rw [← o.K]; exact (Same.sqe s1.le hr).sql), ?_⟩⟩
    rw [← o.K]
    refine k1 F1 H1 (Same.refl F1) s1 _ fun i H e => ?_
    have q : SqL C.K H a ys := (Same.sqe e hr).sql
    have hlen := rr.length
    refine ⟨fun p hp => ?_, fun hl => ?_, fun x H' p hp y => .inl ?_⟩
    · obtain ⟨h0, h1⟩ := rv hp
      obtain ⟨x, h2, _⟩ := rr.at h1
      exact ⟨by omega, ys, x, q, by rw [← hlen]; exact h2⟩
    · show ys.length ≤ i
      rw [List.length_reverse] at hl
      omega
    · obtain ⟨h0, h1⟩ := rv hp
      obtain ⟨x', h2, h3⟩ := rr.at h1
      obtain ⟨e1, hy⟩ := y
      have := hy ys q
      rw [← hlen, h2] at this
      cases this
      exact ⟨e1, h3⟩
  | tup l =>
    cases hl'
    obtain ⟨a, ys, rfl, hr, rr⟩ := r
    refine ⟨a, ys, rfl, .inr ⟨by rw [← o.K]; exact Same.sqt s1.le hr, ?_⟩⟩
    rw [← o.K]
    refine k1 F1 H1 (Same.refl F1) s1 _ fun i H e => ?_
    have q : SqT C.K H a ys := Same.sqt e hr
    have hlen := rr.length
    refine ⟨fun p hp => ?_, fun hl => ?_, fun x H' p hp y => .inl ?_⟩
    · obtain ⟨h0, h1⟩ := rv hp
      obtain ⟨x, h2, _⟩ := rr.at h1
      exact ⟨by omega, ys, x, q, by rw [← hlen]; exact h2⟩
    · show ys.length ≤ i
      rw [List.length_reverse] at hl
      omega
    · obtain ⟨h0, h1⟩ := rv hp
      obtain ⟨x', h2, h3⟩ := rr.at h1
      obtain ⟨e1, hy⟩ := y
      have := hy ys q
      rw [← hlen, h2] at this
      cases this
      exact ⟨e1, h3⟩
  | xt l => exact absurd rfl (nx l)
  | _ => cases hl'
end
end Br
set_option maxHeartbeats 1000000
/-! BrE4: targets, comprehensions. -/
namespace Br
open PySem PySem.Spec PyProof.Rows L2

/-! ### targets -/
mutual
def Tg.ix : Tg → List Nat
  | .one i => [i]
  | .at _ _ => []
  | .tup ts => Tg.ixs ts
def Tg.ixs : List Tg → List Nat
  | [] => []
  | t :: ts => t.ix ++ Tg.ixs ts
end
/-- only these slots differ -/
def Only (ix : List Nat) (σ σ' : L2.St) : Prop := σ'.length = σ.length ∧ ∀ i, i ∉ ix → σ'[i]? = σ[i]?
theorem Only.refl {ix : List Nat} {σ : L2.St} : Only ix σ σ := ⟨rfl, fun _ _ => rfl⟩
theorem Only.set {i : Nat} {σ : L2.St} {x : Option V} : Only [i] σ (σ.set i x) := ⟨by simp, fun j hj => by rw [List.getElem?_set_ne (by intro e; apply hj; simp [e])]⟩
theorem Only.trans {ix jx : List Nat} {σ σ' σ'' : L2.St} (a : Only ix σ σ') (b : Only jx σ' σ'') : Only (ix ++ jx) σ σ'' := ⟨b.1.trans a.1, fun i hi => by
  rw [b.2 i fun h => hi (List.mem_append_right _ h), a.2 i fun h => hi (List.mem_append_left _ h)]⟩
def tG (C : Cb) (t : Tg) : TG := fun v σ H Q => ∃ ρ F p ρ', SR C F ρ σ H ∧ Rep C.K F p v ∧ t.bind p ρ = some ρ' ∧ ∀ σ' H', Only t.ix σ σ' → SR C F ρ' σ' H' → Q σ' H'
def tGs (C : Cb) (ts : List Tg) : TGs := fun vs σ H Q => ∃ ρ F ps ρ', SR C F ρ σ H ∧ Reps C.K F ps vs ∧ Tg.binds ts ps ρ = some ρ' ∧ ∀ σ' H', Only (Tg.ixs ts) σ σ' → SR C F ρ' σ' H' → Q σ' H'
theorem _root_.L2.PG.weak {X : Cx} {e : Expr} {t t' : TG} (h : PG X e t) (i : ∀ v σ H Q, t' v σ H Q → t v σ H Q) : PG X e t' := ⟨fun pins s σ H v u Q I r q => h.run pins s σ H v u Q I r (i _ _ _ _ q)⟩
theorem _root_.L2.PGs.weak {X : Cx} {e : List Expr} {t t' : TGs} (h : PGs X e t) (i : ∀ v σ H Q, t' v σ H Q → t v σ H Q) : PGs X e t' := ⟨fun pins s σ H v u Q I r q => h.run pins s σ H v u Q I r (i _ _ _ _ q)⟩
section
variable {C : Cb} {X : Cx} {e : Expr} {es : List Expr} {pos : Pos} {x : Str}
theorem g_name {i : Nat} (o : XO X C) (hi : X.N[i]? = some x) (hx : Loc X.env.scope x) (hf : X.fn x = true ∨ X.env.scope.names.lookup x = some .local := by first | exact .inl rfl | exact .inr rfl | assumption) : PG X (.Name x pos) (tG C (.one i)) :=
  (pg_name o.nd hi hx hf).weak fun v σ H Q q => by
    obtain ⟨ρ, F, p, ρ', s, r, hb, k⟩ := q
    cases hb
    exact k _ _ Only.set (s.setFro r i)
theorem gs_nil : PGs X [] (tGs C []) := pgs_nil.weak fun vs σ H Q q => by
  obtain ⟨ρ, F, ps, ρ', s, r, hb, k⟩ := q
  cases ps with
  | nil => cases hb; exact ⟨r, k _ _ Only.refl s⟩
  | cons p ps => simp [Tg.binds] at hb
theorem gs_cons {t : Tg} {ts : List Tg} (h1 : PG X e (tG C t)) (h2 : PGs X es (tGs C ts)) (hs : (assignEach (e :: es) X.env).map (·.2) = assign e X.env :: (assignEach es X.env).map (·.2) := by rfl) : PGs X (e :: es) (tGs C (t :: ts)) :=
  (pgs_cons h1 h2 hs).weak fun vs σ H Q q => by
    obtain ⟨ρ, F, ps, ρ', s, r, hb, k⟩ := q
    cases ps with
    | nil => simp [Tg.binds] at hb
    | cons p ps =>
      obtain ⟨v, xs', rfl, r1, r2⟩ := r
      unfold Tg.binds at hb
      split at hb
      · rename_i ρ1 hb1
        exact ⟨v, xs', rfl, ρ, F, p, ρ1, s, r1, hb1, fun σ1 H1 o1 s1 => ⟨ρ1, F, ps, ρ', s1, r2, hb, fun σ2 H2 o2 s2 => k σ2 H2 (o1.trans o2) s2⟩⟩
      · cases hb
theorem g_tup {k : Nat} {ts : List Tg} (o : XC X C) (h : PGs X es (tGs C ts)) (hn : (assignEach es X.env).length = ts.length := by rfl) (hst : (assignEach es X.env).findIdx? (·.1) = none := by rfl) : PG X (.Tuple es k pos) (tG C (.tup ts)) := by
  refine ⟨fun pins s σ H v u Q I r q => ?_⟩
  obtain ⟨ρ, F, p, ρ', s1, rp, hb, k⟩ := q
  cases p with
  | tup l =>
    unfold Tg.bind at hb
    dsimp only at hb
    split at hb
    · rename_i hl
      obtain ⟨a, xs, rfl, hs, hr⟩ := rp
      refine (pg_tup o.calm h hn hst).run pins s σ H _ u Q I r ⟨a, xs, rfl, by rw [← o.K]; exact Same.sqt s1.le hs, by rw [← hr.length]; exact hl, ρ, F, l, ρ', s1, hr, hb, fun σ' H' ho s' => k σ' H' ho s'⟩
    · cases hb
  | lst l =>
    unfold Tg.bind at hb
    dsimp only at hb
    split at hb
    · rename_i hl
      obtain ⟨a, xs, rfl, hs, hr⟩ := rp
      refine (pg_unl o.calm h hn hst).run pins s σ H _ u Q I r ⟨a, xs, rfl, by rw [← o.K]; exact (Same.sqe s1.le hs).sql, by rw [← hr.length]; exact hl, ρ, F, l, ρ', s1, hr, hb, fun σ' H' ho s' => k σ' H' ho s'⟩
    · cases hb
  | xt l =>
    unfold Tg.bind at hb
    dsimp only at hb
    split at hb
    · rename_i hl
      obtain ⟨a, xs, ob, rfl, hs, _, hr⟩ := rp
      have hs : SqT C.K F a xs := .inl (.inr ⟨ob, hs⟩)
      refine (pg_tup o.calm h hn hst).run pins s σ H _ u Q I r ⟨a, xs, rfl, by rw [← o.K]; exact Same.sqt s1.le hs, by rw [← hr.length]; exact hl, ρ, F, l, ρ', s1, hr, hb, fun σ' H' ho s' => k σ' H' ho s'⟩
    · cases hb
  | _ => simp [Tg.bind] at hb
end

/-! ### a frame's part -/
section
variable {C : Cb} {F H : Hp} {ρ : Env} {σ : L2.St} {l : LV} {v : V}
/-- the top slot set aside: whatever keeps the rest keeps it -/
theorem SR.enter (s : SR C F (some l :: ρ) (some v :: σ) H) : ∃ A : List Addr, SR ⟨C.K, H, F, A⟩ F ρ σ H ∧ ∀ F' ρ' σ' H', SR ⟨C.K, H, F, A⟩ F' ρ' σ' H' → SR C F' (some l :: ρ') (some v :: σ') H' := by
  obtain ⟨fp, h1, h2⟩ := s.own
  let sel : Nat → List Addr := fun j => match ρ[j]? with
    | some (some _) => fp (j + 1)
    | _ => []
  have selE : ∀ j m, ρ[j]? = some (some m) → sel j = fp (j + 1) := fun j m e => by
    show (match ρ[j]? with
      | some (some _) => fp (j + 1)
      | _ => []) = _
    rw [e]
  have memA : ∀ a, a ∈ (List.range ρ.length).flatMap sel → ∃ j m, ρ[j]? = some (some m) ∧ a ∈ fp (j + 1) := fun a ha => by
    obtain ⟨j, _, hj⟩ := List.mem_flatMap.mp ha
    have hj : a ∈ (match ρ[j]? with
      | some (some _) => fp (j + 1)
      | _ => []) := hj
    split at hj
    · rename_i m e
      exact ⟨j, m, e, hj⟩
    · cases hj
  have inA : ∀ a j m, ρ[j]? = some (some m) → a ∈ fp (j + 1) → a ∈ (List.range ρ.length).flatMap sel := fun a j m e ha => List.mem_flatMap.mpr ⟨j, List.mem_range.mpr (List.getElem?_eq_some_iff.mp e).1, by rw [selE j m e]; exact ha⟩
  have AO : ∀ a, a ∈ (List.range ρ.length).flatMap sel → C.O a := fun a ha => by
    obtain ⟨j, m, e, hj⟩ := memA a ha
    obtain ⟨_, _, _, _, q⟩ := h1 (j + 1) m (by simpa using e)
    exact (q a hj).2
  have A0 : ∀ a ∈ fp 0, a ∉ (List.range ρ.length).flatMap sel := fun a ha hb => by
    obtain ⟨j, m, e, hj⟩ := memA a hb
    exact h2 0 (j + 1) l m (by omega) rfl (by simpa using e) a ha hj
  obtain ⟨v0, hv0, r0, n0, q0⟩ := h1 0 l rfl
  have ev : v0 = v := by simpa using hv0.symm
  subst ev
  refine ⟨(List.range ρ.length).flatMap sel, ⟨s.le, Same.refl F, fun a o h _ => h, fun a h => .inl h, by simpa using s.len, fun j => fp (j + 1), fun j m e => ?_, fun i j m m' hij e e' => ?_⟩, fun F' ρ' σ' H' s' => ?_⟩
  · obtain ⟨w, hw, rl, nd, q⟩ := h1 (j + 1) m (by simpa using e)
    exact ⟨w, by simpa using hw, rl, nd, fun a ha => ⟨(q a ha).1, .inl (inA a j m e ha)⟩⟩
  · exact h2 (i + 1) (j + 1) m m' (by omega) (by simpa using e) (by simpa using e')
  · obtain ⟨fq, k1, k2⟩ := s'.own
    have keepH : ∀ a o, H a = some o → a ∉ (List.range ρ.length).flatMap sel → H' a = some o := s'.keep
    have foF : ∀ a, F' a ≠ none → F a ≠ none ∨ (a ∈ (List.range ρ.length).flatMap sel ∨ H a = none) := s'.fo
    have newO : ∀ a, (a ∈ (List.range ρ.length).flatMap sel ∨ H a = none) → C.O a := fun a h => by
      rcases h with h | h
      · exact AO a h
      · exact s.fresh h
    have there0 : ∀ a ∈ fp 0, ∃ o, H a = some o := fun a ha => r0.there a ha
    refine ⟨s'.le, s.f0.trans s'.f0, fun a o e ha => ?_, fun a e => ?_, by simpa using s'.len, fun n => match n with
      | 0 => fp 0
      | j + 1 => fq j, fun n m e => ?_, fun n n' m m' hnn e e' => ?_⟩
    · refine keepH a o (s.keep a o e ha) fun hf => ?_
      rcases AO a hf with z | z
      · exact ha z
      · rw [e] at z; cases z
    · rcases foF a e with z | z
      · exact s.fo a z
      · exact .inr (newO a z)
    · cases n with
      | zero =>
        have e1 : l = m := by simpa using e
        subst e1
        refine ⟨v0, rfl, r0.frame s'.f0 fun a ha => ?_, n0, fun a ha => ⟨?_, (q0 a ha).2⟩⟩
        · obtain ⟨o, ho⟩ := there0 a ha
          rw [keepH a o ho (A0 a ha), ho]
        · cases z : F' a with
          | none => rfl
          | some o =>
            rcases foF a (by rw [z]; exact fun w => nomatch w) with w | w | w
            · exact absurd (q0 a ha).1 w
            · exact absurd w (A0 a ha)
            · obtain ⟨o', ho⟩ := there0 a ha
              rw [ho] at w; cases w
      | succ j =>
        obtain ⟨w, hw, rl, nd, q⟩ := k1 j m (by simpa using e)
        exact ⟨w, by simpa using hw, rl, nd, fun a ha => ⟨(q a ha).1, newO a (q a ha).2⟩⟩
    · have ap : ∀ j m, ρ'[j]? = some (some m) → ∀ a ∈ fq j, a ∉ fp 0 := fun j m e a ha hb => by
        obtain ⟨_, _, _, _, q⟩ := k1 j m e
        rcases (q a ha).2 with w | w
        · exact A0 a hb w
        · obtain ⟨o', ho⟩ := there0 a hb
          have w : H a = none := w
          rw [ho] at w; cases w
      cases n with
      | zero =>
        cases n' with
        | zero => exact absurd rfl hnn
        | succ j => exact fun a ha hb => ap j m' (by simpa using e') a hb ha
      | succ i =>
        cases n' with
        | zero => exact fun a ha hb => ap i m (by simpa using e) a ha hb
        | succ j => exact k2 i j m m' (by omega) (by simpa using e) (by simpa using e')
theorem wipe_at (σ : L2.St) : ∀ (vs : List Nat) (i : Nat), i ∉ vs → (wipe σ vs)[i]? = σ[i]?
  | [], i, _ => rfl
  | v :: vs, i, h => by
    unfold wipe
    rw [List.getElem?_set_ne (by intro e; apply h; simp [e]), wipe_at σ vs i fun z => h (List.mem_cons_of_mem _ z)]
theorem wipe_in (σ : L2.St) : ∀ (vs : List Nat) (i : Nat), i ∈ vs → i < σ.length → (wipe σ vs)[i]? = some none
  | [], i, h, _ => by cases h
  | v :: vs, i, h, hl => by
    unfold wipe
    by_cases e : v = i
    · subst e
      rw [List.getElem?_set_self (by rw [wipe_length]; exact hl)]
    · rw [List.getElem?_set_ne e]
      exact wipe_in σ vs i (by rcases List.mem_cons.mp h with z | z; exact absurd z.symm e; exact z) hl
theorem wipe_eq {σ σ' : L2.St} {vs : List Nat} (h : Only vs σ σ') : wipe σ' vs = wipe σ vs := by
  apply List.ext_getElem?
  intro i
  by_cases hi : i ∈ vs
  · by_cases hl : i < σ.length
    · rw [wipe_in σ vs i hi hl, wipe_in σ' vs i hi (by rw [h.1]; exact hl)]
    · have h1 := h.1
      rw [List.getElem?_eq_none (l := wipe σ vs) (by rw [wipe_length]; omega), List.getElem?_eq_none (l := wipe σ' vs) (by rw [wipe_length]; omega)]
  · rw [wipe_at σ vs i hi, wipe_at σ' vs i hi, h.2 i hi]
theorem wipe_only (σ : L2.St) (vs : List Nat) : Only vs σ (wipe σ vs) := ⟨wipe_length σ vs, fun i hi => wipe_at σ vs i hi⟩
theorem SR.wipes (s : SR C F ρ σ H) : ∀ vs : List Nat, SR C F (wipeE ρ vs) (wipe σ vs) H
  | [] => s
  | v :: vs => (SR.wipes s vs).clear v none
theorem backE_len (ρ ρ' : Env) : ∀ vs : List Nat, (backE ρ ρ' vs).length = ρ'.length
  | [] => rfl
  | v :: vs => by
    unfold backE
    split <;> rw [List.length_set, backE_len ρ ρ' vs]
theorem backE_get {ρ ρ' : Env} : ∀ {vs : List Nat} {i : Nat} {l : LV}, (backE ρ ρ' vs)[i]? = some (some l) → (i ∉ vs ∧ ρ'[i]? = some (some l)) ∨ ∃ p, l = .fro p ∧ ρ[i]? = some (some (.fro p))
  | [], i, l, h => .inl ⟨by simp, h⟩
  | v :: vs, i, l, h => by
    unfold backE at h
    split at h
    · rename_i p e
      rcases set_get h with ⟨rfl, z, _⟩ | ⟨z, q⟩
      · cases z
        exact .inr ⟨p, rfl, e⟩
      · rcases backE_get q with ⟨q1, q2⟩ | q
        · exact .inl ⟨fun hm => by
            rcases List.mem_cons.mp hm with w | w
            · exact z w.symm
            · exact q1 w, q2⟩
        · exact .inr q
    · rcases set_get h with ⟨rfl, z, _⟩ | ⟨z, q⟩
      · cases z
      · rcases backE_get q with ⟨q1, q2⟩ | q
        · exact .inl ⟨fun hm => by
            rcases List.mem_cons.mp hm with w | w
            · exact z w.symm
            · exact q1 w, q2⟩
        · exact .inr q
theorem SR.backs {ρ1 : Env} {vs : List Nat} (s : SR C F ρ (wipe σ vs) H) (hr : ∀ (i : Nat) (p : PV), ρ1[i]? = some (some (LV.fro p)) → ∃ w, σ[i]? = some (some w) ∧ Rep C.K F p w) : SR C F (backE ρ1 ρ vs) σ H := by
  obtain ⟨fp, h1, h2⟩ := s.own
  classical
  have key : ∀ i l, (backE ρ1 ρ vs)[i]? = some (some l) → (i ∉ vs ∧ ρ[i]? = some (some l)) ∨ (∃ p, l = .fro p ∧ ρ1[i]? = some (some (.fro p))) := fun i l h => backE_get h
  have froFp : ∀ i p, ρ[i]? = some (some (.fro p)) → fp i = [] := fun i p e => by
    obtain ⟨_, _, rl, _⟩ := h1 i _ e
    exact rl.2
  refine ⟨s.le, s.f0, s.keep, s.fo, by rw [backE_len, s.len, wipe_length], fun i => if i ∉ vs ∧ ∃ l, ρ[i]? = some (some l) ∧ (backE ρ1 ρ vs)[i]? = some (some l) then fp i else [], fun i l e => ?_, fun i j l m hij e e' a ha hb => ?_⟩
  · rcases key i l e with ⟨hi, e2⟩ | ⟨p, rfl, e2⟩
    · dsimp only
      rw [if_pos ⟨hi, l, e2, e⟩]
      obtain ⟨w, hw, rl, nd, q⟩ := h1 i l e2
      exact ⟨w, by rw [← wipe_at σ vs i hi]; exact hw, rl, nd, q⟩
    · obtain ⟨w, hw, rw'⟩ := hr i p e2
      have e0 : (if i ∉ vs ∧ ∃ l, ρ[i]? = some (some l) ∧ (backE ρ1 ρ vs)[i]? = some (some l) then fp i else []) = [] := by
        split
        · rename_i hc
          obtain ⟨_, l, c1, c2⟩ := hc
          rw [e] at c2
          cases c2
          exact froFp i p c1
        · rfl
      dsimp only
      rw [e0]
      exact ⟨w, hw, ⟨rw', rfl⟩, List.nodup_nil, fun a h => absurd h (by simp)⟩
  · dsimp only at ha hb
    split at ha
    · rename_i c
      split at hb
      · rename_i c'
        obtain ⟨_, l1, g1, _⟩ := c
        obtain ⟨_, l2, g2, _⟩ := c'
        exact h2 i j l1 l2 hij g1 g2 a ha hb
      · cases hb
    · cases ha
end

/-! ### comprehensions -/
abbrev W0 : WX := fun _ _ _ _ => False
def tTs (C : Cb) (Φ : Nat → List LV → CR) (W : WX) (c : List Tst) : TT := fun σ H Q => ∃ ρ F, SR C F ρ σ H ∧ Post C W σ F (evTs Φ c ρ) fun b _ _ H' => Q b H'
theorem _root_.L2.PTs.weak {X : Cx} {e : List Expr} {t t' : TT} (h : PTs X e t) (i : ∀ σ H Q, t' σ H Q → t σ H Q) : PTs X e t' := ⟨fun pins s σ H Q I q => h.run pins s σ H Q I (i _ _ _ q)⟩
theorem ts_nil {C : Cb} {Φ : Nat → List LV → CR} {W : WX} {X : Cx} : PTs X [] (tTs C Φ W []) := pts_nil.weak fun σ H Q q => by
  obtain ⟨ρ, F, s, q⟩ := q
  unfold evTs at q
  exact q F H (Same.refl F) s
theorem ts_one {C : Cb} {Φ : Nat → List LV → CR} {W : WX} {X : Cx} {c : Expr} {ic : Tst} (h : PT X c (tT C Φ W ic)) : PTs X [c] (tTs C Φ W [ic]) := (pts_one h).weak fun σ H Q q => by
  obtain ⟨ρ, F, s, q⟩ := q
  unfold evTs at q
  exact ⟨ρ, F, s, q⟩
/-- readings of a block: of any frame -/
def bE (K : PySem.W.Frag) (Φ : Nat → List LV → CR) (e : Ex) : TE := fun σ H Q => ∃ C : Cb, C.K = K ∧ tE C Φ W0 e σ H Q
def bTs (K : PySem.W.Frag) (Φ : Nat → List LV → CR) (e : List Tst) : TT := fun σ H Q => ∃ C : Cb, C.K = K ∧ tTs C Φ W0 e σ H Q
def bG (K : PySem.W.Frag) (t : Tg) : TG := fun v σ H Q => ∃ C : Cb, C.K = K ∧ tG C t v σ H Q
section
variable {C : Cb} {Φ : Nat → List LV → CR} {W : WX} {X : Cx}
theorem XO.blk (o : XO X C) {C' : Cb} (h : C'.K = C.K) {s : Shared} {H : Hp} {scope : Scope} {env : PySem.Env} {fp : List Addr} : XO (X.blk s H scope env fp) C' := ⟨h.trans o.K, o.nd, o.un⟩
theorem XC.blk (o : XC X C) {C' : Cb} (h : C'.K = C.K) {s : Shared} {H : Hp} {scope : Scope} {env : PySem.Env} {fp : List Addr} : XC (X.blk s H scope env fp) C' := ⟨⟨h.trans o.K, o.nd, o.un⟩, o.calm⟩
theorem takes0 {X : Cx} : Takes X W0 := fun u s' h => by
  obtain ⟨_, _, _, _, _, _, _, _, _, _, _, _, _, _, _, _, h⟩ := h
  exact h.elim
theorem bE.to {e : Expr} {ir : Ex} {K : PySem.W.Frag} (h : ∀ C' : Cb, C'.K = K → PE X e (tE C' Φ W0 ir)) : PE X e (bE K Φ ir) := ⟨fun pins s σ H Q I ⟨C', hC, q⟩ => (h C' hC).run pins s σ H Q I q⟩
theorem bTs.to {e : List Expr} {ir : List Tst} {K : PySem.W.Frag} (h : ∀ C' : Cb, C'.K = K → PTs X e (tTs C' Φ W0 ir)) : PTs X e (bTs K Φ ir) := ⟨fun pins s σ H Q I ⟨C', hC, q⟩ => (h C' hC).run pins s σ H Q I q⟩
theorem bG.to {e : Expr} {t : Tg} {K : PySem.W.Frag} (h : ∀ C' : Cb, C'.K = K → PG X e (tG C' t)) : PG X e (bG K t) := ⟨fun pins s σ H v u Q I r ⟨C', hC, q⟩ => (h C' hC).run pins s σ H v u Q I r q⟩
/-- one turn's end -/
def compF (Φ : Nat → List LV → CR) (t : Tg) (vs : List Nat) (c : List Tst) (e : Ex) : PV → Env → ER (Option PV) := fun x ρ2 => match t.bind x ρ2 with
        | some ρ3 => (evTs Φ c ρ3).bind fun b ρ4 => if b = true then (evE Φ e ρ4).bind fun y ρ5 => .ok (some y) (wipeE ρ5 vs) else .ok none (wipeE ρ4 vs)
        | none => .st
theorem Items.mono {K : PySem.W.Frag} {F F' : Hp} {J : It} {xs : List PV} (h : Items K F J xs) (e : Same F F') : Items K F' J xs := fun i H e' => by
  obtain ⟨h1, h2, h3⟩ := h i H (e.trans e')
  refine ⟨h1, h2, fun x H' p hp y => ?_⟩
  rcases h3 x H' p hp y with ⟨q1, q2⟩ | ⟨a, ys, l, q1, q2, q3, q4, q5⟩
  · exact .inl ⟨q1, Rep.mono e q2⟩
  · exact .inr ⟨a, ys, l, q1, q2, q3, q4, q5.mono e⟩
/-- an item has come -/
theorem SR.item {F H H' : Hp} {ρ : Env} {σ : L2.St} {x : V} {p : PV} (s : SR C F ρ σ H) (h : (H' = H ∧ Rep C.K F p x) ∨ ∃ a ys l, H a = none ∧ x = .ref a ∧ H' = upd H a (.tup ys) ∧ p = .tup l ∧ Reps C.K F l ys) : ∃ F', Same F F' ∧ SR C F' ρ σ H' ∧ Rep C.K F' p x := by
  rcases h with ⟨rfl, r⟩ | ⟨a, ys, l, n, rfl, rfl, rfl, r⟩
  · exact ⟨F, Same.refl F, s, r⟩
  · have e : Same F (upd F a (.tup ys)) := same_updF (s.fnone n)
    exact ⟨_, e, s.alloc n _, a, ys, rfl, .inl (.inl upd_same), r.mono e⟩
theorem drop_cons {α : Type} {l : List α} {i : Nat} (h : i < l.length) : ∃ x, l[i]? = some x ∧ l.drop i = x :: l.drop (i + 1) := ⟨l[i], by simp [h], List.drop_eq_getElem_cons h⟩
theorem comp_lc {is : Src} {t : Tg} {vs : List Nat} {ic : List Tst} {ie : Ex} (hv : ∀ i ∈ t.ix, i ∈ vs) {σ : L2.St} {H : Hp} {Q : VK} (q : tL' C Φ W (.comp is t vs ic ie) σ H Q) : tLc (tSrc C Φ W is) (bG C.K t) (bTs C.K Φ ic) (bE C.K Φ ie) vs σ H Q := by
  obtain ⟨ρ, F, s, q⟩ := q
  have q : PostL C W σ F ((evE Φ (.comp is t vs ic ie) ρ).bind fun p ρ1 => .ok (.own p) ρ1) fun _ _ _ H' v => Q v H' := q
  unfold evE at q
  rw [ER.bind_assoc] at q
  refine ⟨ρ, F, s, q.bindV.imp fun xs ρ1 F1 H1 e1 s1 k1 J hJ D hD => ?_⟩
  have k1 : PostL C W σ F1 ((if xs.length ≤ LIM then (compL (compF Φ t vs ic ie) xs (wipeE ρ1 vs)).bind fun ys ρ6 => ER.ok (.lst ys) (backE ρ1 ρ6 vs) else .st).bind fun p ρ1 => .ok (.own p) ρ1) fun _ _ _ H' v => Q v H' := k1
  by_cases hlim : xs.length ≤ LIM
  case neg => rw [if_neg hlim] at k1; exact False.elim k1
  rw [if_pos hlim, ER.bind_assoc] at k1
  have hline := lim_line hlim
  let Inv' : Nat → Hp → Prop := fun i H => i ≤ xs.length ∧ ∃ ρ F acc, acc.length ≤ i ∧ Same F1 F ∧ SR C F (some (.own (.lst acc)) :: ρ) (some (.ref D) :: wipe σ vs) H ∧ match compL (compF Φ t vs ic ie) (xs.drop i) ρ with
    | .ok ys ρ6 => ∀ F' H', Same F F' → SR C F' (some (.own (.lst (acc ++ ys))) :: ρ6) (some (.ref D) :: wipe σ vs) H' → Q (.ref D) H'
    | _ => False
  refine ⟨fun i m H => m = xs.length - i ∧ Inv' i H, ⟨xs.length, by simp, Nat.zero_le _, wipeE ρ1 vs, F1, [], Nat.le_refl _, Same.refl F1, ?_, ?_⟩, ?_⟩
  · have s2 := s1.pushNew hD (p := .lst []) (o := .lst []) ⟨[], upd_same, .nil⟩
    obtain ⟨A, s3, ex⟩ := s2.enter
    exact ex _ _ _ _ (s3.wipes vs)
  · rw [List.drop_zero]
    cases hc : compL (compF Φ t vs ic ie) xs (wipeE ρ1 vs) with
    | ok ys ρ6 =>
      rw [hc] at k1
      intro F' H' e' s'
      refine k1 F' H' (.ref D) e' ?_
      rw [List.nil_append] at s'
      obtain ⟨A, s3, ex⟩ := s'.enter
      refine ex _ _ _ _ (SR.backs (vs := vs) s3 fun i p hp => ?_)
      obtain ⟨w, hw, rw'⟩ := s1.fro hp
      exact ⟨w, hw, Rep.mono e' rw'⟩
    | ex c ρ6 =>
      rw [hc] at k1
      exact absurd hc (by
        intro hc
        have : ∀ (l : List PV) (ρ : Env) (c : Str) (ρ' : Env), compL (compF Φ t vs ic ie) l ρ ≠ .ex c ρ' := by
          intro l
          induction l with
          | nil => intro ρ c ρ' h; cases h
          | cons x l ih =>
            intro ρ c ρ' h
            unfold compL at h
            split at h
            · split at h <;> cases h
            · exact ih _ _ _ h
            · cases h
        exact this _ _ _ _ hc)
    | st =>
      rw [hc] at k1
      exact k1
  · rintro i m H2 ⟨rfl, hi, ρ2, F2, acc, hacc, e2, s2, k2⟩
    obtain ⟨J1, J2, J3⟩ := hJ i H2 (e2.trans s2.le)
    by_cases hlt : i < xs.length
    · obtain ⟨p, hp, hd⟩ := drop_cons hlt
      rw [hd] at k2
      refine .inr ⟨J1 p hp, fun H' => Inv' (i + 1) H', fun H' h => ⟨xs.length - (i + 1), by omega, rfl, h⟩, fun x H3 hy => ?_⟩
      have it := J3 x H3 p hp hy
      have it : (H3 = H2 ∧ Rep C.K F2 p x) ∨ ∃ a ys l, H2 a = none ∧ x = .ref a ∧ H3 = upd H2 a (.tup ys) ∧ p = .tup l ∧ Reps C.K F2 l ys := by
        rcases it with ⟨q1, q2⟩ | ⟨a, ys, l, q1, q2, q3, q4, q5⟩
        · exact .inl ⟨q1, Rep.mono e2 q2⟩
        · exact .inr ⟨a, ys, l, q1, q2, q3, q4, q5.mono e2⟩
      obtain ⟨F3, e3, s3, r3⟩ := s2.item it
      obtain ⟨A, s4, ex⟩ := s3.enter
      unfold compL at k2
      have fin : ∀ (acc' : List PV) ρ5 F5 σ5 H5, acc'.length ≤ i + 1 → Same F3 F5 → Only vs (wipe σ vs) σ5 → SR C F5 (some (.own (.lst acc')) :: ρ5) (some (.ref D) :: σ5) H5 → (match compL (compF Φ t vs ic ie) (xs.drop (i + 1)) (wipeE ρ5 vs) with
          | .ok ys ρ6 => ∀ F' H', Same F5 F' → SR C F' (some (.own (.lst (acc' ++ ys))) :: ρ6) (some (.ref D) :: wipe σ vs) H' → Q (.ref D) H'
          | _ => False) → Inv' (i + 1) H5 := fun acc' ρ5 F5 σ5 H5 hl e5 o5 s5 k5 => by
        refine ⟨hlt, wipeE ρ5 vs, F5, acc', hl, (e2.trans e3).trans e5, ?_, k5⟩
        obtain ⟨A5, s6, ex6⟩ := s5.enter
        have e6 : wipe σ5 vs = wipe σ vs := by
          rw [wipe_eq o5, wipe_eq (wipe_only σ vs)]
        have s7 := s6.wipes vs
        rw [e6] at s7
        exact ex6 _ _ _ _ s7
      have kk : ∃ ρ3, t.bind p ρ2 = some ρ3 ∧ Post (⟨C.K, H3, F3, A⟩ : Cb) W0 (wipe σ vs) F3 (ER.ok () ρ3) (fun _ _ _ _ => True) := by
        cases hb : t.bind p ρ2 with
        | none =>
          have : compF Φ t vs ic ie p ρ2 = .st := by unfold compF; rw [hb]
          rw [this] at k2
          exact False.elim k2
        | some ρ3 => exact ⟨ρ3, rfl, fun _ _ _ _ => trivial⟩
      obtain ⟨ρ3, hb, _⟩ := kk
      have hf : compF Φ t vs ic ie p ρ2 = (evTs Φ ic ρ3).bind fun b ρ4 => if b = true then (evE Φ ie ρ4).bind fun y ρ5 => .ok (some y) (wipeE ρ5 vs) else .ok none (wipeE ρ4 vs) := by
        unfold compF
        rw [hb]
      rw [hf] at k2
      refine ⟨⟨C.K, H3, F3, A⟩, rfl, ρ2, F3, p, ρ3, s4, r3, hb, fun σ5 H5 o5 s5 => ?_⟩
      have ov : Only vs (wipe σ vs) σ5 := ⟨o5.1, fun j hj => o5.2 j fun z => hj (hv j z)⟩
      refine ⟨by rw [wipe_eq ov, wipe_eq (wipe_only σ vs)]; , ⟨C.K, H3, F3, A⟩, rfl, ρ3, F3, s5, ?_⟩
      cases hT : evTs Φ ic ρ3 with
      | st => rw [hT] at k2; exact False.elim k2
      | ex c ρ4 => rw [hT] at k2; exact False.elim k2
      | ok b ρ4 =>
        rw [hT] at k2
        intro F5 H5 e5 s6
        cases b with
        | false =>
          rw [if_neg Bool.false_ne_true]
          have k2 : (match compL (compF Φ t vs ic ie) (xs.drop (i + 1)) (wipeE ρ4 vs) with
            | .ok ys ρ6 => ∀ F' H', Same F2 F' → SR C F' (some (.own (.lst (acc ++ ys))) :: ρ6) (some (.ref D) :: wipe σ vs) H' → Q (.ref D) H'
            | _ => False) := k2
          refine fin acc ρ4 F5 σ5 H5 (by omega) e5 ov (ex _ _ _ _ s6) ?_
          cases hc : compL (compF Φ t vs ic ie) (xs.drop (i + 1)) (wipeE ρ4 vs) with
          | ok ys ρ6 =>
            rw [hc] at k2
            exact fun F' H' e' s' => k2 F' H' ((e3.trans e5).trans e') s'
          | ex c ρ6 => rw [hc] at k2; exact k2
          | st => rw [hc] at k2; exact k2
        | true =>
          rw [if_pos rfl]
          refine ⟨⟨C.K, H3, F3, A⟩, rfl, ρ4, F5, s6, ?_⟩
          have k2 : (match (match (evE Φ ie ρ4).bind fun y ρ5 => ER.ok (some y) (wipeE ρ5 vs) with
              | .ok (some y) ρ1 => (match compL (compF Φ t vs ic ie) (xs.drop (i + 1)) ρ1 with
                | .ok ys ρ2 => ER.ok (y :: ys) ρ2
                | _ => ER.st)
              | .ok none ρ1 => compL (compF Φ t vs ic ie) (xs.drop (i + 1)) ρ1
              | _ => ER.st) with
            | .ok ys ρ6 => ∀ F' H', Same F2 F' → SR C F' (some (.own (.lst (acc ++ ys))) :: ρ6) (some (.ref D) :: wipe σ vs) H' → Q (.ref D) H'
            | _ => False) := k2
          cases hE : evE Φ ie ρ4 with
          | st => rw [hE] at k2; exact False.elim k2
          | ex c ρ5 => rw [hE] at k2; exact False.elim k2
          | ok y ρ5 =>
            rw [hE] at k2
            intro F6 H6 e6 s7 v rv
            have s8 := ex _ _ _ _ s7
            obtain ⟨a, ha, own, _⟩ := s8.ownAt (i := 0) (p := .lst acc) rfl
            have ha : D = a := by simpa using ha
            subst ha
            obtain ⟨accV, hA, rA⟩ := own
            refine ⟨accV, hA, by rw [← rA.length]; omega, ?_⟩
            have ow : OwnAt C.K F6 (upd H6 D (.lst (accV ++ [v]))) D (.lst (acc ++ [y])) := ⟨accV ++ [v], upd_same, rA.append (.cons rv .nil)⟩
            have s9 := s8.write (i := 0) (p := .lst acc) rfl rfl ow
            refine fin (acc ++ [y]) ρ5 F6 σ5 _ (by simp; omega) (e5.trans e6) ov s9 ?_
            have k2 : (match (match compL (compF Φ t vs ic ie) (xs.drop (i + 1)) (wipeE ρ5 vs) with
                | .ok ys ρ2 => ER.ok (y :: ys) ρ2
                | _ => ER.st) with
              | .ok ys ρ6 => ∀ F' H', Same F2 F' → SR C F' (some (.own (.lst (acc ++ ys))) :: ρ6) (some (.ref D) :: wipe σ vs) H' → Q (.ref D) H'
              | _ => False) := k2
            cases hc : compL (compF Φ t vs ic ie) (xs.drop (i + 1)) (wipeE ρ5 vs) with
            | ok ys ρ6 =>
              rw [hc] at k2
              intro F' H' e' s'
              rw [List.append_assoc] at s'
              exact k2 F' H' (((e3.trans e5).trans e6).trans e') s'
            | ex c ρ6 => rw [hc] at k2; exact k2
            | st => rw [hc] at k2; exact k2
    · have e : i = xs.length := by omega
      subst e
      rw [List.drop_eq_nil_of_le (Nat.le_refl _)] at k2
      refine .inl ⟨J2 (Nat.le_refl _), ?_⟩
      have k2 : ∀ F' H', Same F2 F' → SR C F' (some (.own (.lst (acc ++ []))) :: ρ2) (some (.ref D) :: wipe σ vs) H' → Q (.ref D) H' := k2
      rw [List.append_nil] at k2
      exact k2 F2 H2 (Same.refl F2) s2
theorem l_comp {elt tg iter : Expr} {ifs : List Expr} {scope : Scope} {own : List (Str × Nat)} {pos : Pos} {is : Src} {t : Tg} {ic : List Tst} {ie : Ex} (o : XC X C) (hi : PI X tg iter (tSrc C Φ W is)) (ok : BlkOk X.N X.env.scope scope own) (hv : ∀ i ∈ t.ix, i ∈ own.map (·.2))
    (hg : ∀ (C' : Cb) (hC : C'.K = C.K) (s : Shared) (H : Hp) (D : Addr) (cl : List (Str × Addr)) (fp : List Addr), PG (X.blk s H scope (compEnvC scope cl D X.env) fp) tg (tG C' t))
    (ht : ∀ (C' : Cb) (hC : C'.K = C.K) (s : Shared) (H : Hp) (D : Addr) (cl : List (Str × Addr)) (fp : List Addr), PTs (X.blk s H scope (compEnvC scope cl D X.env) fp) ifs (tTs C' Φ W0 ic))
    (he : ∀ (C' : Cb) (hC : C'.K = C.K) (s : Shared) (H : Hp) (D : Addr) (cl : List (Str × Addr)) (fp : List Addr), PE (X.blk s H scope (compEnvC scope cl D X.env) fp) elt (tE C' Φ W0 ie)) (hs : ∀ x, foldedSetIterable iter X.env x = pure x := by intro _; rfl) :
    PE X (.ListComp elt [⟨tg, iter, ifs, 0⟩] scope pos) (tL' C Φ W (.comp is t (own.map (·.2)) ic ie)) :=
  (pe_lc o.calm o.nd hi ok (fun s H D cl fp => bG.to fun C' hC => hg C' hC s H D cl fp) (fun s H D cl fp => bTs.to fun C' hC => ht C' hC s H D cl fp) (fun s H D cl fp => bE.to fun C' hC => he C' hC s H D cl fp) hs).weak fun _ _ _ q => comp_lc hv q
theorem e_comp {e : Expr} {is : Src} {t : Tg} {vs : List Nat} {ic : List Tst} {ie : Ex} (h : PE X e (tL' C Φ W (.comp is t vs ic ie))) : PE X e (tE C Φ W (.comp is t vs ic ie)) := e_ofL h fun ρ => by
  show evE Φ (.comp is t vs ic ie) ρ = ER.bind ((evE Φ (.comp is t vs ic ie) ρ).bind fun p ρ1 => ER.ok (LV.own p) ρ1) (fun l ρ => ER.of l.pv ρ)
  rw [ER.bind_assoc]
  cases evE Φ (.comp is t vs ic ie) ρ <;> rfl
end
end Br
set_option maxHeartbeats 1000000
/-! BrE5: statements. -/
namespace Br
open PySem PySem.Spec PyProof.Rows L2

/-- these slots are as they were -/
def Kp (pr : List Nat) (σ σ' : L2.St) : Prop := ∀ i ∈ pr, σ'[i]? = σ[i]?
theorem Kp.refl {pr : List Nat} {σ : L2.St} : Kp pr σ σ := fun _ _ => rfl
theorem Kp.trans {pr : List Nat} {σ σ' σ'' : L2.St} (a : Kp pr σ σ') (b : Kp pr σ' σ'') : Kp pr σ σ'' := fun i hi => (b i hi).trans (a i hi)
theorem Kp.only {pr ix : List Nat} {σ σ' : L2.St} (h : Only ix σ σ') (d : ∀ i ∈ ix, i ∉ pr) : Kp pr σ σ' := fun i hi => h.2 i fun z => d i z hi
theorem Kp.set {pr : List Nat} {σ : L2.St} {i : Nat} {x : Option V} (d : i ∉ pr) : Kp pr σ (σ.set i x) := Kp.only Only.set fun j hj => by simp at hj; subst hj; exact d

def SPost (C : Cb) (W : WX) (pr : List Nat) (D : Ends) (σ : L2.St) (F : Hp) (r : SO) : Prop := match r with
  | .nx ρ => ∀ F' σ' H', Same F F' → Kp pr σ σ' → SR C F' ρ σ' H' → D.nx σ' H'
  | .bk ρ => ∀ F' σ' H', Same F F' → Kp pr σ σ' → SR C F' ρ σ' H' → D.bk σ' H'
  | .ct ρ => ∀ F' σ' H', Same F F' → Kp pr σ σ' → SR C F' ρ σ' H' → D.ct σ' H'
  | .rt l ρ => ∀ F' σ' H' v, Same F F' → Kp pr σ σ' → SR C F' (some l :: ρ) (some v :: σ') H' → D.rt v H'
  | .ex c ρ => ∀ F' σ' H', Same F F' → Kp pr σ σ' → SR C F' ρ σ' H' → W (.ref (He.ga C.K c)) none σ' H'
  | .st => False
section
variable {C : Cb} {W : WX} {pr : List Nat} {D : Ends} {σ σ1 : L2.St} {F F1 H : Hp} {ρ : Env} {α : Type}
theorem SPost.mono {r : SO} (h : SPost C W pr D σ F r) (e : Same F F1) (k : Kp pr σ σ1) : SPost C W pr D σ1 F1 r := by
  cases r with
  | nx ρ => exact fun F' σ' H' e' k' s => h F' σ' H' (e.trans e') (k.trans k') s
  | bk ρ => exact fun F' σ' H' e' k' s => h F' σ' H' (e.trans e') (k.trans k') s
  | ct ρ => exact fun F' σ' H' e' k' s => h F' σ' H' (e.trans e') (k.trans k') s
  | rt l ρ => exact fun F' σ' H' v e' k' s => h F' σ' H' v (e.trans e') (k.trans k') s
  | ex c ρ => exact fun F' σ' H' e' k' s => h F' σ' H' (e.trans e') (k.trans k') s
  | st => exact h
theorem SPost.so {r : ER α} {f : α → Env → SO} (h : SPost C W pr D σ F (r.so f)) : Post C W σ F r fun a ρ1 F1 _ => SPost C W pr D σ F1 (f a ρ1) := by
  cases r with
  | ok a ρ => exact fun F' H' e' s => SPost.mono h e' Kp.refl
  | ex c ρ => exact fun F' H' e' s => h F' σ H' e' Kp.refl s
  | st => exact h
theorem SPost.soL {r : ER LV} {f : LV → Env → SO} (h : SPost C W pr D σ F (r.so f)) : PostL C W σ F r fun l ρ1 F1 _ _ => SPost C W pr D σ F1 (f l ρ1) := by
  cases r with
  | ok a ρ => exact fun F' H' v e' s => SPost.mono h e' Kp.refl
  | ex c ρ => exact fun F' H' e' s => h F' σ H' e' Kp.refl s
  | st => exact h
theorem SPost.of {o : Option Env} (h : SPost C W pr D σ F (SO.of o)) : ∃ ρ, o = some ρ ∧ SPost C W pr D σ F (.nx ρ) := by
  cases o with
  | none => exact False.elim h
  | some ρ => exact ⟨ρ, rfl, h⟩
/-- the value of a slot on top -/
theorem SR.lift (s : SR C F ρ σ H) {i : Nat} {l : LV} (h : ρ[i]? = some (some l)) : ∃ v, σ[i]? = some (some v) ∧ SR C F (some l :: ρ.set i none) (some v :: σ) H := by
  obtain ⟨fp, h1, h2⟩ := s.own
  obtain ⟨v, hv, rl, nd, q⟩ := h1 i l h
  refine ⟨v, hv, s.le, s.f0, s.keep, s.fo, by simpa using s.len, fun n => match n with
    | 0 => fp i
    | j + 1 => fp j, fun n m e => ?_, fun n n' m m' hnn e e' => ?_⟩
  · cases n with
    | zero => cases (show some (some l) = some (some m) from e); exact ⟨v, rfl, rl, nd, q⟩
    | succ j =>
      rcases set_get (show (ρ.set i none)[j]? = some (some m) by simpa using e) with ⟨_, z, _⟩ | ⟨_, e2⟩
      · cases z
      · obtain ⟨w, hw, r⟩ := h1 j m e2
        exact ⟨w, by simpa using hw, r⟩
  · have tail : ∀ {j : Nat} {m : LV}, (some l :: ρ.set i none)[j + 1]? = some (some m) → j ≠ i ∧ ρ[j]? = some (some m) := fun {j m} e => by
      rcases set_get (show (ρ.set i none)[j]? = some (some m) by simpa using e) with ⟨_, z, _⟩ | ⟨z, e2⟩
      · cases z
      · exact ⟨fun w => z (by first | exact w | exact w.symm), e2⟩
    cases n with
    | zero =>
      cases n' with
      | zero => exact absurd rfl hnn
      | succ j =>
        obtain ⟨z, e2⟩ := tail e'
        exact h2 i j l m' (Ne.symm z) h e2
    | succ i' =>
      cases n' with
      | zero =>
        obtain ⟨z, e2⟩ := tail e
        exact h2 i' i m l z e2 h
      | succ j =>
        obtain ⟨z, e2⟩ := tail e
        obtain ⟨z', e2'⟩ := tail e'
        exact h2 i' j m m' (by omega) e2 e2'
end

section
variable (C : Cb) (Φ : Nat → List LV → CR) (W : WX) (pr : List Nat) (n : Nat)
def tS (st : St) : TS := fun D σ H => ∃ ρ F, SR C F ρ σ H ∧ SPost C W pr D σ F (exS Φ n st ρ)
def tSs (st : List St) : TS := fun D σ H => ∃ ρ F, SR C F ρ σ H ∧ SPost C W pr D σ F (exSs Φ n st ρ)
end

section
variable {C : Cb} {Φ : Nat → List LV → CR} {W : WX} {pr : List Nat} {n : Nat} {X : Cx} {a b c e tg iter : Expr} {es : List Expr} {pos pos' p : Pos} {x y : Str} {st : Stmt} {rest : List Stmt}
theorem ss_nil : PSs X [] (tSs C Φ W pr n []) := pss_nil.weak fun D σ H q => by
  obtain ⟨ρ, F, s, q⟩ := q
  unfold exSs at q
  exact q F σ H (Same.refl F) Kp.refl s
theorem ss_cons {i : St} {is : List St} (h1 : PS X st (tS C Φ W pr n i)) (h2 : PSs X rest (tSs C Φ W pr n is)) : PSs X (st :: rest) (tSs C Φ W pr n (i :: is)) := (pss_cons h1 h2).weak fun D σ H q => by
  obtain ⟨ρ, F, s, q⟩ := q
  unfold exSs at q
  refine ⟨ρ, F, s, ?_⟩
  cases hr : exS Φ n i ρ with
  | nx ρ1 =>
    rw [hr] at q
    have q : SPost C W pr D σ F (exSs Φ n is ρ1) := q
    exact fun F' σ' H' e' k' s' => ⟨ρ1, F', s', q.mono e' k'⟩
  | bk ρ1 => rw [hr] at q; exact q
  | ct ρ1 => rw [hr] at q; exact q
  | rt l ρ1 => rw [hr] at q; exact q
  | ex c ρ1 => rw [hr] at q; exact q
  | st => rw [hr] at q; exact q
theorem st_pass : PS X (.Pass pos) (tS C Φ W pr n .pass) := ps_pass.weak fun D σ H q => by
  obtain ⟨ρ, F, s, q⟩ := q
  unfold exS at q
  exact q F σ H (Same.refl F) Kp.refl s
theorem st_doc {j} : PS X (.Expr (.Constant (.str x) j p) pos) (tS C Φ W pr n .pass) := ps_doc.weak fun D σ H q => by
  obtain ⟨ρ, F, s, q⟩ := q
  unfold exS at q
  exact q F σ H (Same.refl F) Kp.refl s
theorem st_brk : PS X (.Break pos) (tS C Φ W pr n .brk) := ps_break.weak fun D σ H q => by
  obtain ⟨ρ, F, s, q⟩ := q
  unfold exS at q
  exact q F σ H (Same.refl F) Kp.refl s
theorem st_cont : PS X (.Continue pos) (tS C Φ W pr n .cont) := ps_continue.weak fun D σ H q => by
  obtain ⟨ρ, F, s, q⟩ := q
  unfold exS at q
  exact q F σ H (Same.refl F) Kp.refl s
theorem st_ex {ir : Ex} (he : PE X e (tE C Φ W ir)) (hs : swapsWith e none pos.line X.env = pure false := by rfl) : PS X (.Expr e pos) (tS C Φ W pr n (.ex ir)) := (ps_expr he hs).weak fun D σ H q => by
  obtain ⟨ρ, F, s, q⟩ := q
  unfold exS at q
  exact ⟨ρ, F, s, q.so.imp fun a ρ1 F1 H1 e1 s1 k v _ => k F1 σ H1 (Same.refl F1) Kp.refl s1⟩
theorem st_ret {ir : Ex} (he : PE X e (tL' C Φ W ir)) : PS X (.Return (some e) pos) (tS C Φ W pr n (.ret ir)) := (ps_ret he).weak fun D σ H q => by
  obtain ⟨ρ, F, s, q⟩ := q
  unfold exS at q
  exact ⟨ρ, F, s, q.soL.imp fun l ρ1 F1 H1 v e1 s1 k => k F1 σ H1 v (Same.refl F1) Kp.refl s1⟩
theorem st_retN : PS X (.Return none pos) (tS C Φ W pr n .retN) := ps_retN.weak fun D σ H q => by
  obtain ⟨ρ, F, s, q⟩ := q
  unfold exS at q
  exact q F σ H _ (Same.refl F) Kp.refl (s.push rfl)
theorem st_retV {i : Nat} (hN : X.N[i]? = some x) (hv : Vis X.env.scope x) (hd : (x == ("__debug__" : Str)) = false := by decide) (hcd : (x == ("__classdict__" : Str)) = false := by decide) : PS X (.Return (some (.Name x p)) pos) (tS C Φ W pr n (.retV i)) :=
  (ps_ret (pe_var hN hv hd hcd)).weak fun D σ H q => by
    obtain ⟨ρ, F, s, q⟩ := q
    unfold exS at q
    unfold at' at q
    split at q
    · rename_i l hl
      split at hl
      · rename_i l' e
        cases hl
        obtain ⟨v, hv, s'⟩ := s.lift e
        exact ⟨v, hv, q F σ H v (Same.refl F) Kp.refl s'⟩
      · cases hl
    · exact False.elim q
theorem st_set {i : Nat} {ir : Ex} (o : XO X C) (hi : X.N[i]? = some x) (hx : Loc X.env.scope x) (hp : i ∉ pr) (he : PE X e (tL' C Φ W ir)) (hs : swapsWith e (some (.Name x pos')) pos.line X.env = pure false := by rfl) (hf : X.fn x = true ∨ X.env.scope.names.lookup x = some .local := by first | exact .inl rfl | exact .inr rfl | assumption) :
    PS X (.Assign [.Name x pos'] e pos) (tS C Φ W pr n (.set i ir)) := (ps_set o.nd hi hx he hs hf).weak fun D σ H q => by
  obtain ⟨ρ, F, s, q⟩ := q
  unfold exS at q
  exact ⟨ρ, F, s, q.soL.imp fun l ρ1 F1 H1 v e1 s1 k => k F1 _ H1 (Same.refl F1) (Kp.set hp) (s1.put i)⟩
/-- name = [..] on one line -/
theorem st_setC {i : Nat} {elt : Expr} {ifs : List Expr} {scope : Scope} {own : List (Str × Nat)} {py spos : Pos} {is : Src} {t : Tg} {ic : List Tst} {ie : Ex} (o : XC X C) (hy : X.N[i]? = some y) (hyl : X.env.scope.names.lookup y = some .local) (hp : i ∉ pr)
    (hsw : swapsWith (.ListComp elt [⟨tg, iter, ifs, 0⟩] scope pos) (some (.Name y py)) spos.line X.env = pure true) (hi : PI X tg iter (tSrc C Φ W is)) (ok : BlkOk X.N X.env.scope scope own) (hv : ∀ i ∈ t.ix, i ∈ own.map (·.2))
    (hg : ∀ (C' : Cb) (hC : C'.K = C.K) (s : Shared) (H : Hp) (D : Addr) (cl : List (Str × Addr)) (fp : List Addr), PG (X.blk s H scope (compEnvC scope cl D X.env) fp) tg (tG C' t))
    (ht : ∀ (C' : Cb) (hC : C'.K = C.K) (s : Shared) (H : Hp) (D : Addr) (cl : List (Str × Addr)) (fp : List Addr), PTs (X.blk s H scope (compEnvC scope cl D X.env) fp) ifs (tTs C' Φ W0 ic))
    (he : ∀ (C' : Cb) (hC : C'.K = C.K) (s : Shared) (H : Hp) (D : Addr) (cl : List (Str × Addr)) (fp : List Addr), PE (X.blk s H scope (compEnvC scope cl D X.env) fp) elt (tE C' Φ W0 ie)) (hs : ∀ x, foldedSetIterable iter X.env x = pure x := by intro _; rfl) :
    PS X (.Assign [.Name y py] (.ListComp elt [⟨tg, iter, ifs, 0⟩] scope pos) spos) (tS C Φ W pr n (.set i (.comp is t (own.map (·.2)) ic ie))) :=
  (ps_setLc o.calm o.nd hy hyl hsw hi ok (fun s H D cl fp => bG.to fun C' hC => hg C' hC s H D cl fp) (fun s H D cl fp => bTs.to fun C' hC => ht C' hC s H D cl fp) (fun s H D cl fp => bE.to fun C' hC => he C' hC s H D cl fp) hs).weak fun D σ H q => by
    obtain ⟨ρ, F, s, q⟩ := q
    unfold exS at q
    exact comp_lc hv (Q := fun v H1 => D.nx (σ.set i (some v)) H1) ⟨ρ, F, s, q.soL.imp fun l ρ1 F1 H1 v e1 s1 k => k F1 _ H1 (Same.refl F1) (Kp.set hp) (s1.put i)⟩
/-- (a, b, ..) = e -/
theorem st_unp {ir : Ex} {t : Tg} (hp : ∀ i ∈ t.ix, i ∉ pr) (he : PE X e (tE C Φ W ir)) (hg : PG X tg (tG C t)) (hs : swapsWithSole [tg] e pos.line X.env = pure false := by rfl) (hw : swappedStores [tg] e X.env = pure none := by rfl)
    (h1 : (assignEach [tg] X.env).map (·.2) = [assign tg X.env] := by rfl) : PS X (.Assign [tg] e pos) (tS C Φ W pr n (.unp t ir)) := (ps_asg he hg hs hw h1).weak fun D σ H q => by
  obtain ⟨ρ, F, s, q⟩ := q
  unfold exS at q
  refine ⟨ρ, F, s, q.so.imp fun p ρ1 F1 H1 e1 s1 k v r => ?_⟩
  obtain ⟨ρ2, hb, k⟩ := k.of
  exact ⟨ρ1, F1, p, ρ2, s1, r, hb, fun σ2 H2 o2 s2 => k F1 σ2 H2 (Same.refl F1) (Kp.only o2 hp) s2⟩
/-- a, b = e, f -/
theorem st_par {i j : Nat} {ia ib : Ex} {px py pt : Pos} {kt k2 pt2} (o : XC X C) (hi : X.N[i]? = some x) (hj : X.N[j]? = some y) (hij : i ≠ j)
    (hx : X.env.scope.names.lookup x = some .local) (hy : X.env.scope.names.lookup y = some .local) (hpi : i ∉ pr) (hpj : j ∉ pr) (ha : PA X [a, b] (tEs C Φ W [ia, ib]))
    (hw : swappedStores [.Tuple [.Name x px, .Name y py] kt pt] (.Tuple [a, b] k2 pt2) X.env = pure (some [x, y]))
    (hs : swapsWithSole [.Tuple [.Name x px, .Name y py] kt pt] (.Tuple [a, b] k2 pt2) pos.line X.env = pure false := by rfl) :
    PS X (.Assign [.Tuple [.Name x px, .Name y py] kt pt] (.Tuple [a, b] k2 pt2) pos) (tS C Φ W pr n (.par [i, j] [ia, ib])) := (ps_par o.calm o.nd hi hj hij hx hy ha hw hs).weak fun D σ H q => by
  obtain ⟨ρ, F, s, q⟩ := q
  unfold exS at q
  refine ⟨ρ, F, s, q.so.imp fun ps ρ1 F1 H1 e1 s1 k vs r => ?_⟩
  obtain ⟨ρ2, hb, k⟩ := k.of
  unfold parE at hb
  split at hb
  · rename_i i' j' p q ρ' heq
    cases heq
    cases hb
    obtain ⟨v, vs, rfl, r1, w, vs', rfl, r2, r3⟩ := r
    cases r3
    refine ⟨v, w, rfl, k F1 _ H1 (Same.refl F1) ((Kp.set hpi).trans (Kp.set hpj)) ((s1.setFro r1 i).setFro r2 j)⟩
  · cases hb
theorem st_if {it : Tst} {ia ib : List St} {sa sb : List Stmt} (hc : PT X c (tT C Φ W it)) (ha : PSs X sa (tSs C Φ W pr n ia)) (hb : PSs X sb (tSs C Φ W pr n ib)) : PS X (.If c sa sb pos) (tS C Φ W pr n (.ite it ia ib)) := (ps_if hc ha hb).weak fun D σ H q => by
  obtain ⟨ρ, F, s, q⟩ := q
  unfold exS at q
  refine ⟨ρ, F, s, q.so.imp fun t ρ1 F1 H1 e1 s1 k => ?_⟩
  cases t with
  | true => exact ⟨ρ1, F1, s1, k⟩
  | false => exact ⟨ρ1, F1, s1, k⟩
theorem st_whl {it : Tst} {ib : List St} {sb : List Stmt} (hp : PassesOwn (model X.prog X.w) X.A X.env X.xe) (hc : PT X c (tT C Φ W it)) (hb : PSs X sb (tSs C Φ W pr n ib)) : PS X (.While c sb [] pos) (tS C Φ W pr n (.whl it ib)) := (ps_while hp hc hb).weak fun D σ H q => by
  obtain ⟨ρ, F, s, q⟩ := q
  unfold exS at q
  refine ⟨fun m σ' H' => Kp pr σ σ' ∧ ∃ ρ' F', SR C F' ρ' σ' H' ∧ SPost C W pr D σ' F' (whlL (evT Φ it) (exSs Φ n ib) m ρ'), ⟨n, Kp.refl, ρ, F, s, q⟩, ?_⟩
  rintro m σ1 H1 ⟨kp1, ρ1, F1, s1, q1⟩
  cases m with
  | zero => exact False.elim q1
  | succ m =>
    unfold whlL at q1
    refine ⟨ρ1, F1, s1, ?_⟩
    cases hT : evT Φ it ρ1 with
    | st => rw [hT] at q1; exact q1
    | ex c ρ2 =>
      rw [hT] at q1
      exact fun F' H' e' s' => q1 F' σ1 H' e' Kp.refl s'
    | ok t ρ2 =>
      rw [hT] at q1
      intro F2 H2 e2 s2
      cases t with
      | false =>
        rw [if_neg Bool.false_ne_true]
        exact q1 F2 σ1 H2 e2 Kp.refl s2
      | true =>
        rw [if_pos rfl]
        have q1 : SPost C W pr D σ1 F1 (match exSs Φ n ib ρ2 with
          | .nx ρ2 => whlL (evT Φ it) (exSs Φ n ib) m ρ2
          | .ct ρ2 => whlL (evT Φ it) (exSs Φ n ib) m ρ2
          | .bk ρ2 => .nx ρ2
          | .rt l ρ2 => .rt l ρ2
          | .ex c ρ2 => .ex c ρ2
          | .st => .st) := q1
        refine ⟨fun σ' H' => Kp pr σ σ' ∧ ∃ ρ' F', SR C F' ρ' σ' H' ∧ SPost C W pr D σ' F' (whlL (evT Φ it) (exSs Φ n ib) m ρ'), fun σ' H' h => ⟨m, Nat.lt_succ_self m, h⟩, ρ2, F2, s2, ?_⟩
        cases hB : exSs Φ n ib ρ2 with
        | nx ρ3 =>
          rw [hB] at q1
          exact fun F' σ' H' e' k' s' => ⟨kp1.trans k', ρ3, F', s', SPost.mono q1 (e2.trans e') k'⟩
        | ct ρ3 =>
          rw [hB] at q1
          exact fun F' σ' H' e' k' s' => ⟨kp1.trans k', ρ3, F', s', SPost.mono q1 (e2.trans e') k'⟩
        | bk ρ3 =>
          rw [hB] at q1
          exact fun F' σ' H' e' k' s' => q1 F' σ' H' (e2.trans e') k' s'
        | rt l ρ3 =>
          rw [hB] at q1
          exact fun F' σ' H' v e' k' s' => q1 F' σ' H' v (e2.trans e') k' s'
        | ex c ρ3 =>
          rw [hB] at q1
          exact fun F' σ' H' e' k' s' => q1 F' σ' H' (e2.trans e') k' s'
        | st => rw [hB] at q1; exact q1
theorem st_for {is : Src} {t : Tg} {ib : List St} {sb : List Stmt} (o : XC X C) (hp : PassesOwn (model X.prog X.w) X.A X.env X.xe) (hi : PI X tg iter (tSrc C Φ W is)) (hg : PG X tg (tG C t)) (hd : ∀ i ∈ t.ix, i ∉ pr) (hb : PSs X sb (tSs C Φ W pr n ib))
    (hl : ∀ ρ, exS Φ n (.for is t ib) ρ = (evSrc Φ is ρ).so fun xs ρ1 => forL (bindS (exSs Φ n ib) t) xs ρ1 := by intro _; rfl)
    (hs : ∀ x, foldedSetIterable iter X.env x = pure x := by intro _; rfl) : PS X (.For tg iter sb [] pos) (tS C Φ W pr n (.for is t ib)) := (ps_for hp o.calm hi hg hb hs).weak fun D σ H q => by
  obtain ⟨ρ, F, s, q⟩ := q
  rw [hl] at q
  refine ⟨ρ, F, s, q.so.imp fun xs ρ1 F1 H1 e1 s1 k1 J hJ => ?_⟩
  generalize hf : bindS (exSs Φ n ib) t = f at k1
  let Inv' : Nat → L2.St → Hp → Prop := fun i σ' H' => i ≤ xs.length ∧ Kp pr σ σ' ∧ ∃ ρ' F', Same F1 F' ∧ SR C F' ρ' σ' H' ∧ SPost C W pr D σ' F' (forL f (xs.drop i) ρ')
  refine ⟨fun i m σ' H' => m = xs.length - i ∧ Inv' i σ' H', ⟨xs.length, by simp, Nat.zero_le _, Kp.refl, ρ1, F1, Same.refl F1, s1, by rw [List.drop_zero]; exact k1⟩, ?_⟩
  rintro i m σ2 H2 ⟨rfl, hle, kp2, ρ2, F2, e2, s2, k2⟩
  obtain ⟨J1, J2, J3⟩ := hJ i H2 (e2.trans s2.le)
  by_cases hlt : i < xs.length
  · obtain ⟨p, hp, hdr⟩ := drop_cons hlt
    rw [hdr] at k2
    refine .inr ⟨J1 p hp, Inv' (i + 1), fun σ' H' h => ⟨xs.length - (i + 1), by omega, rfl, h⟩, fun x H3 hy => ?_⟩
    have it : (H3 = H2 ∧ Rep C.K F2 p x) ∨ ∃ a ys l, H2 a = none ∧ x = .ref a ∧ H3 = upd H2 a (.tup ys) ∧ p = .tup l ∧ Reps C.K F2 l ys := by
      rcases J3 x H3 p hp hy with ⟨q1, q2⟩ | ⟨a, ys, l, q1, q2, q3, q4, q5⟩
      · exact .inl ⟨q1, Rep.mono e2 q2⟩
      · exact .inr ⟨a, ys, l, q1, q2, q3, q4, q5.mono e2⟩
    obtain ⟨F3, e3, s3, r3⟩ := s2.item it
    unfold forL at k2
    cases hbd : t.bind p ρ2 with
    | none =>
      have e0 : f p ρ2 = .st := by rw [← hf]; unfold bindS; rw [hbd]
      rw [e0] at k2
      exact False.elim k2
    | some ρ3 =>
      have e0 : f p ρ2 = exSs Φ n ib ρ3 := by rw [← hf]; unfold bindS; rw [hbd]
      rw [e0] at k2
      refine ⟨ρ2, F3, p, ρ3, s3, r3, hbd, fun σ4 H4 o4 s4 => ⟨ρ3, F3, s4, ?_⟩⟩
      have kp4 : Kp pr σ2 σ4 := Kp.only o4 hd
      cases hB : exSs Φ n ib ρ3 with
      | nx ρ5 =>
        rw [hB] at k2
        exact fun F' σ' H' e' k' s' => ⟨hlt, (kp2.trans kp4).trans k', ρ5, F', (e2.trans e3).trans e', s', SPost.mono k2 (e3.trans e') (kp4.trans k')⟩
      | ct ρ5 =>
        rw [hB] at k2
        exact fun F' σ' H' e' k' s' => ⟨hlt, (kp2.trans kp4).trans k', ρ5, F', (e2.trans e3).trans e', s', SPost.mono k2 (e3.trans e') (kp4.trans k')⟩
      | bk ρ5 =>
        rw [hB] at k2
        exact fun F' σ' H' e' k' s' => k2 F' σ' H' (e3.trans e') (kp4.trans k') s'
      | rt l ρ5 =>
        rw [hB] at k2
        exact fun F' σ' H' v e' k' s' => k2 F' σ' H' v (e3.trans e') (kp4.trans k') s'
      | ex c ρ5 =>
        rw [hB] at k2
        exact fun F' σ' H' e' k' s' => k2 F' σ' H' (e3.trans e') (kp4.trans k') s'
      | st => rw [hB] at k2; exact k2
  · have e : i = xs.length := by omega
    subst e
    rw [List.drop_eq_nil_of_le (Nat.le_refl _)] at k2
    exact .inl ⟨J2 (Nat.le_refl _), k2 F2 σ2 H2 (Same.refl F2) Kp.refl s2⟩
/-! ### x[k] = v -/
theorem set_both (hu : X.A.units + 1 < cLine) : PSet X (fun o i v H Q => rSetL o i v H Q ∨ rSetD o i v H Q) := by
  intro pins s σ H o i v ov iv u Q I ro ri rv h
  rcases h with h | h
  · exact set_list pins s σ H o i v ov iv u Q I ro ri rv h
  · exact set_dict hu pins s σ H o i v ov iv u Q I ro ri rv h
theorem set_ix {F H : Hp} {ρ : Env} {σ : L2.St} (s : SR C F ρ σ H) {i : Nat} {p q : PV} {l' : LV} {v w : V} (h : ((at' ρ i).bind fun l => setIxP l q p) = some l') (rq : Rep C.K F q w) (rp : Rep C.K F p v) :
    ∃ a, σ[i]? = some (some (.ref a)) ∧ ∀ Q : Hp → Prop, (∀ H', SR C F (ρ.set i (some l')) σ H' → Q H') → rSetL (.ref a) w v H Q ∨ rSetD (.ref a) w v H Q := by
  unfold at' at h
  split at h
  · rename_i l e
    replace h : setIxP l q p = some l' := h
    unfold setIxP at h
    split at h
    · rename_i l k
      obtain ⟨j, hj, rfl⟩ := Option.map_eq_some_iff.mp h
      obtain ⟨a, ha, ⟨xs, hH, rr⟩, _⟩ := s.ownAt e
      refine ⟨a, ha, fun Q hQ => .inl ⟨a, xs, k, j, rfl, rq, hH, by rw [← rr.length]; exact hj, hQ _ (s.write e ha ⟨xs.set j v, upd_same, Reps.set rp j rr⟩)⟩⟩
    · rename_i ks vs hk
      obtain ⟨k, hk, h⟩ := Option.bind_eq_some_iff.mp h
      split at h
      · rename_i hl
        cases h
        obtain ⟨a, ha, ⟨xs, hH, hlen, nd, rr⟩, _⟩ := s.ownAt e
        obtain ⟨ys, h1, h2, h3⟩ := put_zip (k := k) rp rr hlen nd
        have hw : w = kV k := by
          cases q with
          | int i => cases hk; exact rq
          | str i => cases hk; exact rq
          | _ => cases hk
        subst hw
        refine ⟨a, ha, fun Q hQ => .inr ⟨a, _, rfl, DPut.k hH ?_, hQ _ (s.write e ha ⟨ys, ?_, h2, putKs_nd nd, h3⟩)⟩⟩
        · rw [List.length_zip, ← hlen, Nat.min_self]
          exact Nat.lt_of_lt_of_le hl (lim_line (Nat.le_refl _))
        · rw [upd_same, h1]
      · cases h
    · cases h
  · cases h
theorem g_at {i : Nat} {k : Int} {j : Nat} {p2 : Pos} (o : XO X C) (hN : X.N[i]? = some x) (hv : Vis X.env.scope x) (hd : (x == ("__debug__" : Str)) = false := by decide) (hcd : (x == ("__classdict__" : Str)) = false := by decide) :
    PG X (.Subscript (.Name x p) (.Constant (.int k) j p2) pos) (tG C (.at i k)) := (pg_sub (pe_var hN hv hd hcd) pe_int (set_both (by have := o.un; omega)) (by intro _; rfl)).weak fun v σ H Q q => by
  obtain ⟨ρ, F, p, ρ', s, r, hb, kk⟩ := q
  unfold Tg.bind at hb
  split at hb
  · rename_i l hl
    cases hb
    obtain ⟨a, ha, hq⟩ := set_ix s (w := .int k) hl rfl r
    exact ⟨.ref a, ha, hq _ fun H' s' => kk σ H' Only.refl s'⟩
  · cases hb
theorem st_setIx {i : Nat} {ik ir : Ex} {p2 : Pos} (o : XO X C) (hN : X.N[i]? = some x) (hv : Vis X.env.scope x) (hk : PE X b (tE C Φ W ik)) (he : PE X e (tE C Φ W ir)) (hs : swapsWithSole [.Subscript (.Name x p) b p2] e pos.line X.env = pure false := by rfl) (hw : swappedStores [.Subscript (.Name x p) b p2] e X.env = pure none := by rfl)
    (h1 : (assignEach [.Subscript (.Name x p) b p2] X.env).map (·.2) = [assign (.Subscript (.Name x p) b p2) X.env] := by rfl)
    (ha : ∀ v, assign (.Subscript (.Name x p) b p2) X.env v = (do
      let ov ← holding [v] (eval (.Name x p) X.env)
      let iv ← holding [v, ov] (eval b X.env)
      standAt p2
      holding [v, ov, iv] (setItem ov iv v)
      release [v, ov, iv] []) := by intro _; rfl)
    (hd : (x == ("__debug__" : Str)) = false := by decide) (hcd : (x == ("__classdict__" : Str)) = false := by decide) :
    PS X (.Assign [.Subscript (.Name x p) b p2] e pos) (tS C Φ W pr n (.setIx i ik ir)) :=
  (ps_asg he (pg_sub (pe_var hN hv hd hcd) hk (set_both (by have := o.un; omega)) ha) hs hw h1).weak fun D σ H q => by
    obtain ⟨ρ, F, s, q⟩ := q
    unfold exS at q
    refine ⟨ρ, F, s, q.so.imp fun p ρ1 F1 H1 e1 s1 k1 v r => ?_⟩
    by_cases hsome : (at' ρ1 i).isSome = true
    case neg => rw [if_neg hsome] at k1; exact False.elim k1
    rw [if_pos hsome] at k1
    have hat : ∃ l, ρ1[i]? = some (some l) := by
      unfold at' at hsome
      split at hsome
      · rename_i l e; exact ⟨l, e⟩
      · cases hsome
    obtain ⟨l0, hl0⟩ := hat
    obtain ⟨v0, fp0, hv0, _⟩ := s1.get hl0
    refine ⟨v0, hv0, ρ1, F1, s1, k1.so.imp fun q ρ2 F2 H2 e2 s2 k2 w rw' => ?_⟩
    split at k2
    · rename_i l hl
      obtain ⟨a, ha, hq⟩ := set_ix s2 hl rw' (Rep.mono e2 r)
      rw [hv0] at ha
      cases ha
      exact hq _ fun H' s' => k2 F2 σ H' (Same.refl F2) Kp.refl s'
    · exact False.elim k2
/-! ### x.append(e), x.extend(e) -/
theorem ownL_at {ρ : Env} {i : Nat} (h : ownL ρ i = true) : ∃ l, ρ[i]? = some (some (.own (.lst l))) := by
  unfold ownL at'  at h
  split at h
  · rename_i l e
    split at e
    · rename_i l' e'
      cases e
      exact ⟨l, e'⟩
    · cases e
  · cases h
theorem st_app {i : Nat} {ir : Ex} {apos cpos p : Pos} (hN : X.N[i]? = some x) (hv : Vis X.env.scope x) (he : PE X e (tE C Φ W ir))
    (hbase : attributeBase (.Name x p) "append" X.env (eval (.Name x p) X.env) = eval (.Name x p) X.env := by rfl)
    (hfew : ((backTo cpos (starEach [e] X.env)).all (fun x => !x.1) && (backToKw cpos (keywordEach [] X.env)).all (fun x => x.1.isSome)
      && decide (([e] : List Expr).length + ([] : List Keyword).length + (if ([] : List Keyword).isEmpty then 0 else 1) < 30)) = true := by rfl)
    (hline : (apos.endLine == cpos.line) = true := by rfl) (hst : starEach [e] X.env = (false, eval e X.env) :: starEach [] X.env := by rfl)
    (hd : (x == ("__debug__" : Str)) = false := by decide) (hcd : (x == ("__classdict__" : Str)) = false := by decide)
    (hs : swapsWith (.Call (.Attribute (.Name x p) "append" apos) [e] [] cpos) none pos.line X.env = pure false := by rfl) :
    PS X (.Expr (.Call (.Attribute (.Name x p) "append" apos) [e] [] cpos) pos) (tS C Φ W pr n (.app i ir)) :=
  (ps_expr (pe_bm PySem.F.plainAttrs_list PySem.F.slot_list_append PySem.F.type_list_append mt_append (pe_var hN hv hd hcd) (pa_cons he pa_nil hst) hbase hfew hline hst rfl) hs).weak fun D σ H q => by
    obtain ⟨ρ, F, s, q⟩ := q
    unfold exS at q
    by_cases ho : ownL ρ i = true
    case neg => rw [if_neg ho] at q; exact False.elim q
    rw [if_pos ho] at q
    obtain ⟨l0, hl0⟩ := ownL_at ho
    obtain ⟨a, ha, ⟨xs0, hH0, _⟩, _⟩ := s.ownAt hl0
    refine ⟨.ref a, ha, .inl ⟨rfl, xs0, .inl (.inl hH0)⟩, ρ, F, s, q.so.imp fun p ρ1 F1 H1 e1 s1 k1 v r => ?_⟩
    split at k1
    · rename_i l hl
      split at k1
      · rename_i hlim
        unfold at' at hl
        split at hl
        · rename_i l' hl'
          cases hl
          obtain ⟨a', ha', ⟨xs, hH, rr⟩, _⟩ := s1.ownAt hl'
          rw [ha] at ha'
          cases ha'
          exact ⟨a, xs, v, rfl, rfl, hH, by rw [← rr.length]; exact Nat.lt_of_lt_of_le hlim (lim_line (Nat.le_refl _)), k1 F1 σ _ (Same.refl F1) Kp.refl (s1.write hl' ha ⟨xs ++ [v], upd_same, rr.append (.cons r .nil)⟩)⟩
        · cases hl
      · exact False.elim k1
    · exact False.elim k1
def rExtR (K : PySem.W.Frag) : V → List V → Hp → VK → Prop := fun x vs H Q => ∃ l b xs zs, x = .ref l ∧ vs = [.ref b] ∧ H l = some (.lst xs) ∧ SqE K H b zs ∧ xs.length + zs.length ≤ sizeLine ∧ Q .non (upd H l (.lst (xs ++ zs)))
theorem mt_extR : MtM X "list.extend" (rExtR X.K) := by
  intro pins s σ H x vs v us Q I rx rv h
  obtain ⟨l, b, xs, zs, rfl, rfl, hH, hB, hz, q⟩ := h
  cases rx
  obtain ⟨u, rfl, ru⟩ := rv.one
  cases ru
  obtain ⟨z, its, n, r, hl, e⟩ := I.lstM hH
  obtain ⟨its2, n2, r2, hl2, z2, e2⟩ := Inv.rd I hB
  have hsz : its.toArray.size + its2.toArray.size ≤ sizeLine := by rw [List.size_toArray, List.size_toArray]; omega
  have hlong : ¬ (!its.toArray.isEmpty && Builtin.List.listTooLong (its.toArray.size + its2.toArray.size)) = true := by
    rw [notLongL hsz, Bool.and_false]
    exact Bool.false_ne_true
  refine call_meets PySem.F.slot_list_extend ⟨_, e, rfl⟩ PySem.F.entry_list_extend (PySem.F.args_list_extend_2 _ _)
    (AutoSeq1.list_extend_list_list_0 l its.toArray n b its2.toArray n2 hlong (by rw [List.size_toArray]; omega) (by omega)) ⟨e, e2, ?_⟩
  refine ⟨.non, _, I.lset (its' := its ++ its2) hH e (by simp) (r.append r2) ?_, rfl, q⟩
  rw [List.length_append]
  omega
theorem st_ext {i : Nat} {ir : Ex} {apos cpos p : Pos} (o : XO X C) (hN : X.N[i]? = some x) (hv : Vis X.env.scope x) (he : PE X e (tE C Φ W ir))
    (hbase : attributeBase (.Name x p) "extend" X.env (eval (.Name x p) X.env) = eval (.Name x p) X.env := by rfl)
    (hfew : ((backTo cpos (starEach [e] X.env)).all (fun x => !x.1) && (backToKw cpos (keywordEach [] X.env)).all (fun x => x.1.isSome)
      && decide (([e] : List Expr).length + ([] : List Keyword).length + (if ([] : List Keyword).isEmpty then 0 else 1) < 30)) = true := by rfl)
    (hline : (apos.endLine == cpos.line) = true := by rfl) (hst : starEach [e] X.env = (false, eval e X.env) :: starEach [] X.env := by rfl)
    (hd : (x == ("__debug__" : Str)) = false := by decide) (hcd : (x == ("__classdict__" : Str)) = false := by decide)
    (hs : swapsWith (.Call (.Attribute (.Name x p) "extend" apos) [e] [] cpos) none pos.line X.env = pure false := by rfl) :
    PS X (.Expr (.Call (.Attribute (.Name x p) "extend" apos) [e] [] cpos) pos) (tS C Φ W pr n (.ext i ir)) :=
  (ps_expr (pe_bm PySem.F.plainAttrs_list PySem.F.slot_list_extend PySem.F.type_list_extend mt_extR (pe_var hN hv hd hcd) (pa_cons he pa_nil hst) hbase hfew hline hst rfl) hs).weak fun D σ H q => by
    obtain ⟨ρ, F, s, q⟩ := q
    unfold exS at q
    by_cases ho : ownL ρ i = true
    case neg => rw [if_neg ho] at q; exact False.elim q
    rw [if_pos ho] at q
    obtain ⟨l0, hl0⟩ := ownL_at ho
    obtain ⟨a, ha, ⟨xs0, hH0, _⟩, _⟩ := s.ownAt hl0
    refine ⟨.ref a, ha, .inl ⟨rfl, xs0, .inl (.inl hH0)⟩, ρ, F, s, q.so.imp fun p ρ1 F1 H1 e1 s1 k1 v r => ?_⟩
    split at k1
    · rename_i l m hl
      split at k1
      · rename_i hlim
        unfold at' at hl
        split at hl
        · rename_i l' hl'
          cases hl
          obtain ⟨a', ha', ⟨xs, hH, rr⟩, _⟩ := s1.ownAt hl'
          rw [ha] at ha'
          cases ha'
          obtain ⟨b, ys, rfl, hb, rb⟩ := r
          exact ⟨a, b, xs, ys, rfl, rfl, hH, by rw [← o.K]; exact Same.sqe s1.le hb, by rw [← rr.length, ← rb.length]; exact lim_line hlim, k1 F1 σ _ (Same.refl F1) Kp.refl (s1.write hl' ha ⟨xs ++ ys, upd_same, rr.append rb⟩)⟩
        · cases hl
      · exact False.elim k1
    · exact False.elim k1
/-! ### raise -/
theorem st_raise {c m : Str} {bmB : List Value} {B newId initId : String} {j : Nat} {p2 cpos : Pos} (o : XC X C) (tk : Takes X W) (Fx : ExcBaseFacts B newId initId bmB) (q : PySem.W.excIn X.K (He.ga X.K c) bmB newId = true) (gC : X.mg c = some (.ref (He.ga X.K c))) (kC : PySem.W.keepIn X.K (.ref (He.ga X.K c)) = true) (r : Raises X (.ref (He.ga X.K c))) (hg : Gl X c)
    (hdb : (c == ("__debug__" : Str)) = false := by decide) : PS X (.Raise (some (.Call (.Name c p) [.Constant (.str m) j p2] [] cpos)) none pos) (tS C Φ W pr n (.raise c)) :=
  (ps_raise o.calm tk (pmk_own Fx q gC kC r hg hdb)).weak fun D σ H q => by
    obtain ⟨ρ, F, s, q⟩ := q
    unfold exS at q
    have := q F σ H (Same.refl F) Kp.refl s
    rw [o.K] at this
    exact this
end
end Br
set_option maxHeartbeats 1000000
/-! BrE6: defs; the law's end. -/
namespace Br
open PySem PySem.Spec PyProof.Rows L2

section
variable {C : Cb} {F H : Hp} {ρ ρ2 : Env} {σ σ2 : L2.St}
theorem SR.sub (s : SR C F ρ σ H) (hl : ρ2.length = σ2.length) (h : ∀ (i : Nat) (l : LV), ρ2[i]? = some (some l) → ρ[i]? = some (some l) ∧ σ2[i]? = σ[i]?) : SR C F ρ2 σ2 H := by
  obtain ⟨fp, h1, h2⟩ := s.own
  refine ⟨s.le, s.f0, s.keep, s.fo, hl, fp, fun i l e => ?_, fun i j l m hij e e' => h2 i j l m hij (h i l e).1 (h j m e').1⟩
  obtain ⟨q1, q2⟩ := h i l e
  obtain ⟨v, hv, r⟩ := h1 i l q1
  exact ⟨v, q2.trans hv, r⟩
theorem SR.pad (s : SR C F ρ σ H) (n : Nat) : SR C F (ρ ++ List.replicate n none) (σ ++ List.replicate n none) H := by
  obtain ⟨fp, h1, h2⟩ := s.own
  have key : ∀ (i : Nat) (l : LV), (ρ ++ List.replicate n none)[i]? = some (some l) → ρ[i]? = some (some l) := fun i l e => by
    by_cases hi : i < ρ.length
    · rw [List.getElem?_append_left hi] at e; exact e
    · rw [List.getElem?_append_right (by omega), List.getElem?_replicate] at e
      split at e <;> cases e
  refine ⟨s.le, s.f0, s.keep, s.fo, by simp [s.len], fp, fun i l e => ?_, fun i j l m hij e e' => h2 i j l m hij (key i l e) (key j m e')⟩
  obtain ⟨v, hv, r⟩ := h1 i l (key i l e)
  refine ⟨v, ?_, r⟩
  rw [List.getElem?_append_left (by rw [← s.len]; exact (List.getElem?_eq_some_iff.mp (key i l e)).1)]
  exact hv
theorem lvsOf_ok : ∀ {n : Nat} {ρ : Env} {as : List LV}, lvsOf ρ n = some as → as.length = n ∧ ∀ (i : Nat) (l : LV), as[i]? = some l → ρ[i]? = some (some l)
  | 0, ρ, as, h => by
    have h : some [] = some as := by cases ρ <;> exact h
    cases h
    exact ⟨rfl, fun i l e => by simp at e⟩
  | n + 1, [], as, h => by cases h
  | n + 1, none :: ρ, as, h => by cases h
  | n + 1, some l0 :: ρ, as, h => by
    obtain ⟨as', h1, rfl⟩ := Option.map_eq_some_iff.mp (show (lvsOf ρ n).map (l0 :: ·) = some as from h)
    obtain ⟨q1, q2⟩ := lvsOf_ok h1
    refine ⟨by simp [q1], fun i l e => ?_⟩
    cases i with
    | zero => simpa using e
    | succ i => simpa using q2 i l (by simpa using e)
theorem ioOk_at {io : List Nat} : ∀ {ls : List LV} {k i : Nat} {l : LV}, ioOk io k ls = true → ls[i]? = some l → l.isFro = false → k + i ∈ io
  | [], k, i, l, _, e, _ => by simp at e
  | .fro p :: ls, k, i, l, h, e, f => by
    cases i with
    | zero => simp at e; subst e; cases f
    | succ i =>
      have := ioOk_at (k := k + 1) (i := i) (show ioOk io (k + 1) ls = true from h) (by simpa using e) f
      rwa [Nat.add_assoc, Nat.add_comm 1 i] at this
  | .own p :: ls, k, i, l, h, e, f => by
    have h : (decide (k ∈ io) && ioOk io (k + 1) ls) = true := h
    rw [Bool.and_eq_true, decide_eq_true_eq] at h
    cases i with
    | zero => exact h.1
    | succ i =>
      have := ioOk_at (k := k + 1) (i := i) h.2 (by simpa using e) f
      rwa [Nat.add_assoc, Nat.add_comm 1 i] at this
  | .ins a b c :: ls, k, i, l, h, e, f => by
    have h : (decide (k ∈ io) && ioOk io (k + 1) ls) = true := h
    rw [Bool.and_eq_true, decide_eq_true_eq] at h
    cases i with
    | zero => exact h.1
    | succ i =>
      have := ioOk_at (k := k + 1) (i := i) h.2 (by simpa using e) f
      rwa [Nat.add_assoc, Nat.add_comm 1 i] at this
end

/-- what a body may use -/
structure BX (X : Cx) (C : Cb) (W : WX) (k : Nat) : Prop where
  o : XC X C
  tk : Takes X W
  po : PassesOwn (model X.prog X.w) X.A X.env X.xe
  room : Room k X.A
section
variable {P : Program} {w : World} {K : PySem.W.Frag} {mg : Str → Option Value} {base : Heap} {x qual : Str} {params : Arguments} {body : List Stmt} {scope : Scope} {f : Addr} {fd : FuncData} {N ps : List Str} {k n : Nat} {Φ : Nat → List LV → CR}
theorem runFn_ok {fn : Fn} {ls : List LV} (h : runFn Φ n fn ls ≠ .st) : ls.length = fn.np ∧ fn.np ≤ fn.nn ∧ ioOk fn.io 0 ls = true := by
  unfold runFn at h
  by_cases hc : ls.length = fn.np ∧ fn.np ≤ fn.nn ∧ ioOk fn.io 0 ls = true
  · exact hc
  · rw [if_neg hc] at h
    exact absurd rfl h
/-- out of a body -/
theorem SR.leave {C : Cb} {F' H' : Hp} {ρ : Env} {σ σ' : L2.St} {ls as : List LV} {vs : List V} {io : List Nat} {np : Nat} {r : LV} {v : V} (s : SR C F' (some r :: ρ) (some v :: σ') H') (hvs : vs.length = ls.length) (hio : ioOk io 0 ls = true) (hnp : ls.length = np) (has : lvsOf ρ np = some as)
    (kp : Kp io (vs.map some ++ σ) σ') : as.length = ls.length ∧ SR C F' (some r :: maskL ls as) (some v :: vs.map some) H' := by
  obtain ⟨q1, q2⟩ := lvsOf_ok has
  have hal : as.length = ls.length := by omega
  refine ⟨hal, s.sub (by simp [maskL_len hal, hvs]) fun i l e => ?_⟩
  cases i with
  | zero => exact ⟨e, rfl⟩
  | succ i =>
    have e : (maskL ls as)[i]? = some (some l) := by simpa using e
    obtain ⟨l0, l1, e1, e2, e3⟩ := maskL_get e
    have hf : l0.isFro = false := by
      cases h : l0.isFro with
      | false => rfl
      | true => rw [h] at e3; cases e3
    rw [hf, if_neg Bool.false_ne_true] at e3
    cases e3
    refine ⟨by simpa using q2 i l e2, ?_⟩
    have hi := ioOk_at hio e1 hf
    rw [Nat.zero_add] at hi
    have := kp i hi
    have hlt : i < vs.length := by rw [hvs]; exact (List.getElem?_eq_some_iff.mp e1).1
    rw [List.getElem?_append_left (by simpa using hlt)] at this
    simpa using this.symm
/-- THE RULE for a def -/
theorem def_ok (fn : Fn) {dvs : List V} {kws : List (Str × V)} (F : FunD K x qual params body scope dvs kws f fd) (S : FnScope N ps scope) (hN : fn.nn = N.length) (hp : fn.np = ps.length)
    (hb : ∀ (cdv : Value) (A : Around) (outer : List PySem.Env) (s : Shared) (H : Hp) (E : XK) (C : Cb),
      BX (cxOf (L2.CX P w) P w K mg base N qual scope f cdv A outer s H E) C (fun cls d _ H => E cls d H) k →
      PSs (cxOf (L2.CX P w) P w K mg base N qual scope f cdv A outer s H E) body (tSs C Φ (fun cls d _ H => E cls d H) fn.io n fn.body)) :
    FnOk P w K mg base (L2.CX P w) (k + 1) f fd ps (spOf K (runFn Φ n fn)) := by
  have hns : ∀ {vs H Q E}, spOf K (runFn Φ n fn) vs H Q E → ∃ F ls fp, SR ⟨K, H, F, fp⟩ F (ls.map some) (vs.map some) H ∧ (vs.length = ls.length ∧ ls.length = fn.np ∧ fn.np ≤ fn.nn ∧ ioOk fn.io 0 ls = true) ∧ (match runFn Φ n fn ls with
      | .ok r ls' => ∀ v H' F', SR ⟨K, H, F, fp⟩ F' (some r :: maskL ls ls') (some v :: vs.map some) H' → Q v H'
      | .ex c ls' => ∀ H' F', SR ⟨K, H, F, fp⟩ F' (maskL ls ls') (vs.map some) H' → E (.ref (He.ga K c)) none H'
      | .st => False) := fun {vs H Q E} h => by
    obtain ⟨F0, ls, fp, sr, h⟩ := h
    have h1 := sr.len
    rw [List.length_map, List.length_map] at h1
    refine ⟨F0, ls, fp, sr, ⟨h1.symm, runFn_ok (Φ := Φ) (n := n) fun z => ?_⟩, h⟩
    rw [z] at h
    exact h
  refine F.ok S (fun vs H Q E h => ?_) (fun cdv A outer s H vs Q E hr h => ?_)
  · obtain ⟨_, ls, _, _, ⟨h1, h2, _⟩, _⟩ := hns h
    omega
  · obtain ⟨F0, ls, fp, sr, hc, h⟩ := hns h
    refine ⟨tSs ⟨K, H, F0, fp⟩ Φ (fun cls d _ H => E cls d H) fn.io n fn.body, ?_, ?_⟩
    · refine hb cdv A outer s H E ⟨K, H, F0, fp⟩ ⟨⟨⟨rfl, S.nd, ?_⟩, rfl⟩, takes_of rfl rfl rfl rfl, PassesOwn.leaving, hr⟩
      have := hr.un
      show (A.deeper _).units + 131 < cLine
      omega
    · obtain ⟨hvs, hnp, hnn, hio⟩ := hc
      have e1 : frameOf fn ls = ls.map some ++ List.replicate (N.length - vs.length) none := by
        unfold frameOf
        rw [hN, hvs]
      unfold runFn at h
      rw [if_pos ⟨hnp, hnn, hio⟩, e1] at h
      refine ⟨ls.map some ++ List.replicate (N.length - vs.length) none, F0, sr.pad _, ?_⟩
      cases hr : exSs Φ n fn.body (ls.map some ++ List.replicate (N.length - vs.length) none) with
      | nx ρ =>
        rw [hr] at h
        dsimp only at h
        cases hl : lvsOf ρ fn.np with
        | none => rw [hl] at h; exact h.elim
        | some as =>
          rw [hl] at h
          intro F' σ' H' e' k' s'
          obtain ⟨q1, q2⟩ := SR.leave (s'.push (p := .non) (v := .non) rfl) hvs hio hnp hl k'
          exact h _ _ _ q2
      | rt r ρ =>
        rw [hr] at h
        dsimp only at h
        cases hl : lvsOf ρ fn.np with
        | none => rw [hl] at h; exact h.elim
        | some as =>
          rw [hl] at h
          intro F' σ' H' v e' k' s'
          obtain ⟨q1, q2⟩ := SR.leave s' hvs hio hnp hl k'
          exact h _ _ _ q2
      | ex c ρ =>
        rw [hr] at h
        dsimp only at h
        cases hl : lvsOf ρ fn.np with
        | none => rw [hl] at h; exact h.elim
        | some as =>
          rw [hl] at h
          intro F' σ' H' e' k' s'
          obtain ⟨q1, q2⟩ := SR.leave (s'.push (p := .non) (v := .non) rfl) hvs hio hnp hl k'
          exact h _ _ q2.pop
      | bk ρ => rw [hr] at h; exact h.elim
      | ct ρ => rw [hr] at h; exact h.elim
      | st => rw [hr] at h; exact h.elim
end

/-! ### the law -/
theorem reps_ints {K : PySem.W.Frag} {F : Hp} : ∀ (ns : List Int), Reps K F (ns.map PV.int) (ns.map V.int)
  | [] => rfl
  | n :: ns => .cons rfl (reps_ints ns)
end Br
set_option maxHeartbeats 1000000
/-! BrE7: the rules by their forms. -/
namespace Br
open PySem PySem.Spec PyProof.Rows L2

def visB (sc : Scope) (x : Str) : Bool := match sc.names.lookup x with
  | some .local => true
  | some .cell => true
  | some .free => true
  | _ => false
theorem visBy {sc : Scope} {x : Str} (h : visB sc x = true) : Vis sc x := by
  unfold visB at h
  split at h
  · exact .inl (by assumption)
  · exact .inr (.inl (by assumption))
  · exact .inr (.inr (by assumption))
  · cases h
def locB (sc : Scope) (x : Str) : Bool := match sc.names.lookup x with
  | some .local => true
  | some .cell => true
  | _ => false
theorem locBy {sc : Scope} {x : Str} (h : locB sc x = true) : Loc sc x := by
  unfold locB at h
  split at h
  · exact .inl (by assumption)
  · exact .inr (by assumption)
  · cases h
section
variable {C : Cb} {Φ : Nat → List LV → CR} {W : WX} {X : Cx} {a b c e : Expr} {es : List Expr} {pos p : Pos} {x : Str} {ia ib ic : Arg}
theorem oc (o : XO X C) {f : Value → Value → Sem Value} {op : Op} (h : OpR X f (R2of X.K op)) : OpR X f (R2of C.K op) := by rw [o.K]; exact h
theorem occ (o : XO X C) {f : Value → Value → Sem Value} {op : Op} {v : V} (h : OpR X f (fun x y H Q => y = v ∧ rOp X.K op [x] H Q)) : OpR X f (fun x y H Q => y = v ∧ rOp C.K op [x] H Q) := by rw [o.K]; exact h
theorem cc (o : XO X C) {f : Value} {op : Op} (h : CallR X f (fun xs H Q => rOp X.K op xs H Q)) : CallR X f (fun xs H Q => rOp C.K op xs H Q) := by rw [o.K]; exact h
theorem b_add (o : XO X C) (ha : PE X a (tA1 C Φ W ia)) (hb : PE X b (tA1 C Φ W ib)) : PE X (.BinOp a .Add b pos) (tO C Φ W .add [ia, ib]) := o_bin (oc o or_add) ha hb
theorem b_sub (o : XO X C) (ha : PE X a (tA1 C Φ W ia)) (hb : PE X b (tA1 C Φ W ib)) : PE X (.BinOp a .Sub b pos) (tO C Φ W .sub [ia, ib]) := o_bin (oc o or_sub) ha hb
theorem b_mul (o : XO X C) (ha : PE X a (tA1 C Φ W ia)) (hb : PE X b (tA1 C Φ W ib)) : PE X (.BinOp a .Mult b pos) (tO C Φ W .mul [ia, ib]) := o_bin (oc o or_mul) ha hb
theorem b_fdiv (o : XO X C) (ha : PE X a (tA1 C Φ W ia)) (hb : PE X b (tA1 C Φ W ib)) : PE X (.BinOp a .FloorDiv b pos) (tO C Φ W .fdiv [ia, ib]) := o_bin (oc o or_fdiv) ha hb
theorem b_mod (o : XO X C) (ha : PE X a (tA1 C Φ W ia)) (hb : PE X b (tA1 C Φ W ib)) : PE X (.BinOp a .Mod b pos) (tO C Φ W .mod [ia, ib]) := o_bin (oc o or_mod) ha hb
theorem b_pow (o : XO X C) (ha : PE X a (tA1 C Φ W ia)) (hb : PE X b (tA1 C Φ W ib)) : PE X (.BinOp a .Pow b pos) (tO C Φ W .pow [ia, ib]) := o_bin (oc o or_pow) ha hb
theorem un64 (o : XO X C) : X.A.units + 64 < cLine := by have := o.un; omega
theorem un65 (o : XO X C) : X.A.units + 65 < cLine := by have := o.un; omega
theorem c_eq (o : XO X C) (ha : PE X a (tA1 C Φ W ia)) (hb : PE X b (tA1 C Φ W ib)) : PE X (.Compare a [.Eq] [b] pos) (tO C Φ W .eq [ia, ib]) := o_cmp (oc o (or_eq (un64 o))) (nomark b) ha hb
theorem c_ne (o : XO X C) (ha : PE X a (tA1 C Φ W ia)) (hb : PE X b (tA1 C Φ W ib)) : PE X (.Compare a [.NotEq] [b] pos) (tO C Φ W .ne [ia, ib]) := o_cmp (oc o (or_ne (un64 o))) (nomark b) ha hb
theorem c_lt (o : XO X C) (ha : PE X a (tA1 C Φ W ia)) (hb : PE X b (tA1 C Φ W ib)) : PE X (.Compare a [.Lt] [b] pos) (tO C Φ W .lt [ia, ib]) := o_cmp (oc o (or_lt o.un)) (nomark b) ha hb
theorem c_le (o : XO X C) (ha : PE X a (tA1 C Φ W ia)) (hb : PE X b (tA1 C Φ W ib)) : PE X (.Compare a [.LtE] [b] pos) (tO C Φ W .le [ia, ib]) := o_cmp (oc o or_le) (nomark b) ha hb
theorem c_gt (o : XO X C) (ha : PE X a (tA1 C Φ W ia)) (hb : PE X b (tA1 C Φ W ib)) : PE X (.Compare a [.Gt] [b] pos) (tO C Φ W .gt [ia, ib]) := o_cmp (oc o or_gt) (nomark b) ha hb
theorem c_ge (o : XO X C) (ha : PE X a (tA1 C Φ W ia)) (hb : PE X b (tA1 C Φ W ib)) : PE X (.Compare a [.GtE] [b] pos) (tO C Φ W .ge [ia, ib]) := o_cmp (oc o or_ge) (nomark b) ha hb
theorem c_inn (o : XO X C) (ha : PE X a (tA1 C Φ W ia)) (hb : PE X b (tA1 C Φ W ib)) (hm : behindInMarks .In b = false := by with_unfolding_all rfl) : PE X (.Compare a [.In] [b] pos) (tO C Φ W .inn [ia, ib]) := o_cmp (oc o (or_in (un65 o))) hm ha hb
theorem c_nin (o : XO X C) (ha : PE X a (tA1 C Φ W ia)) (hb : PE X b (tA1 C Φ W ib)) (hm : behindInMarks .NotIn b = false := by with_unfolding_all rfl) : PE X (.Compare a [.NotIn] [b] pos) (tO C Φ W .nin [ia, ib]) := o_cmp (oc o (or_nin (un65 o))) hm ha hb
theorem c_isN (o : XO X C) {j} {p2 : Pos} (ha : PE X a (tA1 C Φ W ia)) : PE X (.Compare a [.Is] [.Constant .none j p2] pos) (tO C Φ W .isN [ia]) := o_cmpC (occ o or_isN) (nomark _) ha pe_non
theorem c_isNN (o : XO X C) {j} {p2 : Pos} (ha : PE X a (tA1 C Φ W ia)) : PE X (.Compare a [.IsNot] [.Constant .none j p2] pos) (tO C Φ W .isNN [ia]) := o_cmpC (occ o or_isNN) (nomark _) ha pe_non
theorem c_isB (o : XO X C) {t : Bool} {j} {p2 : Pos} (ha : PE X a (tA1 C Φ W ia)) : PE X (.Compare a [.Is] [.Constant (.bool t) j p2] pos) (tO C Φ W (.isB t) [ia]) := o_cmpC (occ o or_isB) (nomark _) ha pe_bl
theorem c_isNB (o : XO X C) {t : Bool} {j} {p2 : Pos} (ha : PE X a (tA1 C Φ W ia)) : PE X (.Compare a [.IsNot] [.Constant (.bool t) j p2] pos) (tO C Φ W (.isNB t) [ia]) := o_cmpC (occ o or_isNB) (nomark _) ha pe_bl
/-! the same as tests -/
theorem x_eq (o : XO X C) (ha : PE X a (tA1 C Φ W ia)) (hb : PE X b (tA1 C Φ W ib)) : PT X (.Compare a [.Eq] [b] pos) (tT C Φ W (.e (.app .eq [ia, ib]))) := t_cmp (oc o (or_eq (un64 o))) (nomark b) ha hb
theorem x_ne (o : XO X C) (ha : PE X a (tA1 C Φ W ia)) (hb : PE X b (tA1 C Φ W ib)) : PT X (.Compare a [.NotEq] [b] pos) (tT C Φ W (.e (.app .ne [ia, ib]))) := t_cmp (oc o (or_ne (un64 o))) (nomark b) ha hb
theorem x_lt (o : XO X C) (ha : PE X a (tA1 C Φ W ia)) (hb : PE X b (tA1 C Φ W ib)) : PT X (.Compare a [.Lt] [b] pos) (tT C Φ W (.e (.app .lt [ia, ib]))) := t_cmp (oc o (or_lt o.un)) (nomark b) ha hb
theorem x_le (o : XO X C) (ha : PE X a (tA1 C Φ W ia)) (hb : PE X b (tA1 C Φ W ib)) : PT X (.Compare a [.LtE] [b] pos) (tT C Φ W (.e (.app .le [ia, ib]))) := t_cmp (oc o or_le) (nomark b) ha hb
theorem x_gt (o : XO X C) (ha : PE X a (tA1 C Φ W ia)) (hb : PE X b (tA1 C Φ W ib)) : PT X (.Compare a [.Gt] [b] pos) (tT C Φ W (.e (.app .gt [ia, ib]))) := t_cmp (oc o or_gt) (nomark b) ha hb
theorem x_ge (o : XO X C) (ha : PE X a (tA1 C Φ W ia)) (hb : PE X b (tA1 C Φ W ib)) : PT X (.Compare a [.GtE] [b] pos) (tT C Φ W (.e (.app .ge [ia, ib]))) := t_cmp (oc o or_ge) (nomark b) ha hb
theorem x_inn (o : XO X C) (ha : PE X a (tA1 C Φ W ia)) (hb : PE X b (tA1 C Φ W ib)) (hm : behindInMarks .In b = false := by with_unfolding_all rfl) : PT X (.Compare a [.In] [b] pos) (tT C Φ W (.e (.app .inn [ia, ib]))) := t_cmp (oc o (or_in (un65 o))) hm ha hb
theorem x_nin (o : XO X C) (ha : PE X a (tA1 C Φ W ia)) (hb : PE X b (tA1 C Φ W ib)) (hm : behindInMarks .NotIn b = false := by with_unfolding_all rfl) : PT X (.Compare a [.NotIn] [b] pos) (tT C Φ W (.e (.app .nin [ia, ib]))) := t_cmp (oc o (or_nin (un65 o))) hm ha hb
theorem x_isN (o : XO X C) {j} {p2 : Pos} (ha : PE X a (tA1 C Φ W ia)) : PT X (.Compare a [.Is] [.Constant .none j p2] pos) (tT C Φ W (.e (.app .isN [ia]))) := t_cmpC (occ o or_isN) (nomark _) ha pe_non
theorem x_isNN (o : XO X C) {j} {p2 : Pos} (ha : PE X a (tA1 C Φ W ia)) : PT X (.Compare a [.IsNot] [.Constant .none j p2] pos) (tT C Φ W (.e (.app .isNN [ia]))) := t_cmpC (occ o or_isNN) (nomark _) ha pe_non
theorem x_isB (o : XO X C) {t : Bool} {j} {p2 : Pos} (ha : PE X a (tA1 C Φ W ia)) : PT X (.Compare a [.Is] [.Constant (.bool t) j p2] pos) (tT C Φ W (.e (.app (.isB t) [ia]))) := t_cmpC (occ o or_isB) (nomark _) ha pe_bl
theorem x_isNB (o : XO X C) {t : Bool} {j} {p2 : Pos} (ha : PE X a (tA1 C Φ W ia)) : PT X (.Compare a [.IsNot] [.Constant (.bool t) j p2] pos) (tT C Φ W (.e (.app (.isNB t) [ia]))) := t_cmpC (occ o or_isNB) (nomark _) ha pe_bl
/-- two order comparisons in a row -/
theorem ch (o : XO X C) {op op' : CmpOp} {o1 o2 : Op} {ja jb jc : Ex} (ho : OpR X (compareOp op) (R2of X.K o1)) (ho' : OpR X (compareOp op') (R2of X.K o2)) (ha : PE X a (tE C Φ W ja)) (hb : PE X b (tE C Φ W jb)) (hc : PE X c (tE C Φ W jc)) (hm : lastMarks [op, op'] [b, c] = false := by with_unfolding_all rfl) :
    PE X (.Compare a [op, op'] [b, c] pos) (tE C Φ W (.chain o1 o2 ja jb jc)) := e_chain (oc o ho) (oc o ho') hm ha hb hc
theorem xch (o : XO X C) {op op' : CmpOp} {o1 o2 : Op} {ja jb jc : Ex} (ho : OpR X (compareOp op) (R2of X.K o1)) (ho' : OpR X (compareOp op') (R2of X.K o2)) (ha : PE X a (tE C Φ W ja)) (hb : PE X b (tE C Φ W jb)) (hc : PE X c (tE C Φ W jc)) (hm : lastMarks [op, op'] [b, c] = false := by with_unfolding_all rfl) :
    PT X (.Compare a [op, op'] [b, c] pos) (tT C Φ W (.e (.chain o1 o2 ja jb jc))) := t_chain (oc o ho) (oc o ho') hm ha hb hc
/-! builtins -/
theorem as1 (ha : PE X a (tA1 C Φ W ia)) (he : starEach [a] X.env = (false, eval a X.env) :: starEach [] X.env) : PA X [a] (tAs C Φ W [ia]) := as_cons ha as_nil he
theorem as2 (ha : PE X a (tA1 C Φ W ia)) (hb : PE X b (tA1 C Φ W ib)) (he : starEach [a, b] X.env = (false, eval a X.env) :: starEach [b] X.env) (he2 : starEach [b] X.env = (false, eval b X.env) :: starEach [] X.env) : PA X [a, b] (tAs C Φ W [ia, ib]) := as_cons ha (as1 hb he2) he
theorem pl1 (he2 : starEach [b] X.env = (false, eval b X.env) :: starEach [] X.env) : (backTo pos (starEach [b] X.env)).any (·.1) = false := by rw [he2]; rfl
theorem f_len (o : XO X C) (hg : Gl X "len") (hm : X.mg "len" = none) (ha : PE X a (tA1 C Φ W ia)) (he : starEach [a] X.env = (false, eval a X.env) :: starEach [] X.env := by rfl) : PE X (.Call (.Name "len" p) [a] [] pos) (tO C Φ W .len [ia]) := o_blt (cc o cr_len) hg hm boot_len (as1 ha he) (by decide) (by decide) he rfl
theorem f_sum (o : XC X C) (hg : Gl X "sum") (hm : X.mg "sum" = none) (ha : PE X a (tA1 C Φ W ia)) (he : starEach [a] X.env = (false, eval a X.env) :: starEach [] X.env := by rfl) : PE X (.Call (.Name "sum" p) [a] [] pos) (tO C Φ W .sum [ia]) := o_blt (cc o.toXO (cr_sumA o.calm)) hg hm boot_sum (as1 ha he) (by decide) (by decide) he rfl
theorem f_abs (o : XO X C) (hg : Gl X "abs") (hm : X.mg "abs" = none) (ha : PE X a (tA1 C Φ W ia)) (he : starEach [a] X.env = (false, eval a X.env) :: starEach [] X.env := by rfl) : PE X (.Call (.Name "abs" p) [a] [] pos) (tO C Φ W .abs [ia]) := o_blt (cc o cr_abs) hg hm boot_abs (as1 ha he) (by decide) (by decide) he rfl
theorem f_minL (o : XC X C) (hg : Gl X "min") (hm : X.mg "min" = none) (ha : PE X a (tA1 C Φ W ia)) (he : starEach [a] X.env = (false, eval a X.env) :: starEach [] X.env := by rfl) : PE X (.Call (.Name "min" p) [a] [] pos) (tO C Φ W .minL [ia]) := o_blt (cc o.toXO (cr_minL o.calm)) hg hm boot_min (as1 ha he) (by decide) (by decide) he rfl
theorem f_maxL (o : XC X C) (hg : Gl X "max") (hm : X.mg "max" = none) (ha : PE X a (tA1 C Φ W ia)) (he : starEach [a] X.env = (false, eval a X.env) :: starEach [] X.env := by rfl) : PE X (.Call (.Name "max" p) [a] [] pos) (tO C Φ W .maxL [ia]) := o_blt (cc o.toXO (cr_maxL o.calm)) hg hm boot_max (as1 ha he) (by decide) (by decide) he rfl
theorem f_sorted (o : XC X C) (hg : Gl X "sorted") (hm : X.mg "sorted" = none) (ha : PE X a (tA1 C Φ W ia)) (he : starEach [a] X.env = (false, eval a X.env) :: starEach [] X.env := by rfl) : PE X (.Call (.Name "sorted" p) [a] [] pos) (tO C Φ W .sorted [ia]) := o_blt (cc o.toXO (cr_sortedL o.calm)) hg hm boot_sorted (as1 ha he) (by decide) (by decide) he rfl
theorem f_all (o : XC X C) (hg : Gl X "all") (hm : X.mg "all" = none) (ha : PE X a (tA1 C Φ W ia)) (he : starEach [a] X.env = (false, eval a X.env) :: starEach [] X.env := by rfl) : PE X (.Call (.Name "all" p) [a] [] pos) (tO C Φ W .allL [ia]) := o_blt (cc o.toXO (cr_allL o.calm)) hg hm boot_all (as1 ha he) (by decide) (by decide) he rfl
theorem f_any (o : XC X C) (hg : Gl X "any") (hm : X.mg "any" = none) (ha : PE X a (tA1 C Φ W ia)) (he : starEach [a] X.env = (false, eval a X.env) :: starEach [] X.env := by rfl) : PE X (.Call (.Name "any" p) [a] [] pos) (tO C Φ W .anyL [ia]) := o_blt (cc o.toXO (cr_anyL o.calm)) hg hm boot_any (as1 ha he) (by decide) (by decide) he rfl
theorem f_int (o : XO X C) (hg : Gl X "int") (hm : X.mg "int" = none) (ha : PE X a (tA1 C Φ W ia)) (he : starEach [a] X.env = (false, eval a X.env) :: starEach [] X.env := by rfl) : PE X (.Call (.Name "int" p) [a] [] pos) (tO C Φ W .int1 [ia]) := o_ty (cc o cr_int1) hg hm PyProof.Rows.boot_int (as1 ha he) (by decide) (by decide) he rfl
theorem f_str (o : XO X C) (hg : Gl X "str") (hm : X.mg "str" = none) (ha : PE X a (tA1 C Φ W ia)) (he : starEach [a] X.env = (false, eval a X.env) :: starEach [] X.env := by rfl) : PE X (.Call (.Name "str" p) [a] [] pos) (tO C Φ W .str1 [ia]) := o_ty (cc o cr_str1) hg hm PyProof.Rows.boot_str (as1 ha he) (by decide) (by decide) he rfl
theorem f_tuple (o : XO X C) (hg : Gl X "tuple") (hm : X.mg "tuple" = none) (ha : PE X a (tA1 C Φ W ia)) (he : starEach [a] X.env = (false, eval a X.env) :: starEach [] X.env := by rfl) : PE X (.Call (.Name "tuple" p) [a] [] pos) (tO C Φ W .tuple1 [ia]) := o_ty (cc o cr_tuple1) hg hm PyProof.Rows.boot_tuple (as1 ha he) (by decide) (by decide) he rfl
theorem f_list (o : XO X C) (hg : Gl X "list") (hm : X.mg "list" = none) (ha : PE X a (tA1 C Φ W ia)) (he : starEach [a] X.env = (false, eval a X.env) :: starEach [] X.env := by rfl) : PE X (.Call (.Name "list" p) [a] [] pos) (tO C Φ W .list1 [ia]) := o_ty (cc o cr_list1) hg hm PyProof.Rows.boot_list (as1 ha he) (by decide) (by decide) he rfl
theorem f_min2 (o : XC X C) (hg : Gl X "min") (hm : X.mg "min" = none) (ha : PE X a (tA1 C Φ W ia)) (hb : PE X b (tA1 C Φ W ib)) (he : starEach [a, b] X.env = (false, eval a X.env) :: starEach [b] X.env := by rfl) (he2 : starEach [b] X.env = (false, eval b X.env) :: starEach [] X.env := by rfl) : PE X (.Call (.Name "min" p) [a, b] [] pos) (tO C Φ W .min2 [ia, ib]) := o_blt (cc o.toXO (cr_min2 o.calm)) hg hm boot_min (as2 ha hb he he2) (by decide) (by decide) he (pl1 he2)
theorem f_max2 (o : XC X C) (hg : Gl X "max") (hm : X.mg "max" = none) (ha : PE X a (tA1 C Φ W ia)) (hb : PE X b (tA1 C Φ W ib)) (he : starEach [a, b] X.env = (false, eval a X.env) :: starEach [b] X.env := by rfl) (he2 : starEach [b] X.env = (false, eval b X.env) :: starEach [] X.env := by rfl) : PE X (.Call (.Name "max" p) [a, b] [] pos) (tO C Φ W .max2 [ia, ib]) := o_blt (cc o.toXO (cr_max2 o.calm)) hg hm boot_max (as2 ha hb he he2) (by decide) (by decide) he (pl1 he2)
theorem cr_dmod : CallR X (.builtin "divmod") (RCof X.K .dmod) := by
  refine CallR.imp call_divmodW fun xs H Q h => ?_
  obtain ⟨x, y, F, p, t, r, rfl, e, h1, h2, ho, q⟩ := rOp_two h (len2 rfl (fun a => by cases a <;> rfl) fun a b c d => by cases a <;> cases b <;> rfl)
  simp only [opSem] at ho
  unfold dmodP at ho
  split at ho
  · rename_i a b hab
    cases hab
    split at ho
    · rename_i hc
      cases ho
      refine ⟨a, b, by rw [show x = V.int a from h1, show y = V.int b from h2], ⟨hc.1, ?_⟩, fun p hp => q _ _ (.tup hp (.cons rfl (.cons rfl .nil)))⟩
      exact PyProof.noPylong_of_log2 hc.2
    · cases ho
  · cases ho
theorem f_dmod (o : XO X C) (hg : Gl X "divmod") (hm : X.mg "divmod" = none) (ha : PE X a (tA1 C Φ W ia)) (hb : PE X b (tA1 C Φ W ib)) (he : starEach [a, b] X.env = (false, eval a X.env) :: starEach [b] X.env := by rfl) (he2 : starEach [b] X.env = (false, eval b X.env) :: starEach [] X.env := by rfl) : PE X (.Call (.Name "divmod" p) [a, b] [] pos) (tO C Φ W .dmod [ia, ib]) := o_blt (cc o cr_dmod) hg hm boot_divmod (as2 ha hb he he2) (by decide) (by decide) he (pl1 he2)
/-- d.get(k, x) -/
theorem m_dget (o : XO X C) {apos cpos : Pos} (ha : PE X a (tA1 C Φ W ia)) (hb : PE X b (tA1 C Φ W ib)) (hc : PE X c (tA1 C Φ W ic)) (m : M2 X a "get" apos b c cpos := by constructor <;> rfl) : PE X (.Call (.Attribute a "get" apos) [b, c] [] cpos) (tM C Φ W .dget ia [ib, ic]) :=
  (pe_dget2 (by have := o.un; omega) ha hb hc m).weak fun σ H Q q => by
    refine tA1.imp q fun x H1 k => ?_
    obtain ⟨⟨F, p, e, hr, hp⟩, k⟩ := k
    cases p with
    | dK ks l =>
      obtain ⟨a, xs, rfl, hh, _⟩ := hp
      refine ⟨a, rfl, .inl ⟨_, hh⟩, ?_⟩
      obtain ⟨ρ, F1, s1, k⟩ := tAs_cons k
      refine ⟨ρ, F1, s1, k.imp fun av ρ1 F2 H2 e2 s2 k2 y ry => ?_⟩
      obtain ⟨ρ2, F3, s3, k3⟩ := tAs_cons (k2 y ry)
      refine ⟨ρ2, F3, s3, k3.imp fun av ρ1 F2 H2 e2 s2 k2 z rz => ?_⟩
      have k4 := tAs_nil (k2 z rz)
      obtain ⟨a', o', ea, hg, hq⟩ := dget_ok (show rOp C.K .dget [.ref a, y, z] H2 Q from k4)
      cases ea
      exact ⟨o', hg, hq⟩
    | _ => cases hr
/-- a type's name -/
theorem ty_int (hg : Gl X "int") (hm : X.mg "int" = none) : PE X (.Name "int" p) (tC (.ty "int")) := pe_bltn hg hm PyProof.Rows.boot_int rfl
theorem ty_str (hg : Gl X "str") (hm : X.mg "str" = none) : PE X (.Name "str" p) (tC (.ty "str")) := pe_bltn hg hm PyProof.Rows.boot_str rfl
theorem ty_tuple (hg : Gl X "tuple") (hm : X.mg "tuple" = none) : PE X (.Name "tuple" p) (tC (.ty "tuple")) := pe_bltn hg hm PyProof.Rows.boot_tuple rfl
theorem ty_list (hg : Gl X "list") (hm : X.mg "list" = none) : PE X (.Name "list" p) (tC (.ty "list")) := pe_bltn hg hm PyProof.Rows.boot_list rfl
theorem ty_dict (hg : Gl X "dict") (hm : X.mg "dict" = none) : PE X (.Name "dict" p) (tC (.ty "dict")) := pe_bltn hg hm PyProof.Rows.boot_dict rfl
theorem boot_bool' : bootBuiltins "bool" = some (.type "bool") := by decide +kernel
theorem ty_bool (hg : Gl X "bool") (hm : X.mg "bool" = none) : PE X (.Name "bool" p) (tC (.ty "bool")) := pe_bltn hg hm boot_bool' rfl
end
end Br
set_option maxHeartbeats 1000000
/-! BrE8: a law's defs by names. -/
namespace Br
open PySem PySem.Spec PyProof.Rows L2

/-- a def that may be called by its name -/
def Ok (P : Program) (w : World) (K : PySem.W.Frag) (mg : Str → Option Value) (base : Heap) (k : Nat) (x : Str) (ps : List Str) (g : List LV → CR) : Prop :=
  ∃ fd, FnOk P w K mg base (L2.CX P w) k (He.ga K x) fd ps (spOf K g) ∧ PySem.W.keepIn K (.ref (He.ga K x)) = true ∧ Binds K fd ps [] ∧ mg x = some (.ref (He.ga K x))
/-- a def of the text, as it stands behind the top -/
def Dn (K : PySem.W.Frag) (mg : Str → Option Value) (x : Str) (st : Stmt) : Prop := (∃ fd, FunD K x x (defArgs st) (defBody st) (defScope st) [] [] (He.ga K x) fd) ∧ mg x = some (.ref (He.ga K x))
/-- an own exception class -/
def Xn (K : PySem.W.Frag) (mg : Str → Option Value) (x : Str) : Prop := PySem.W.excIn K (He.ga K x) He.veBase "ValueError.__new__" = true ∧ PySem.W.keepIn K (.ref (He.ga K x)) = true ∧ PySem.W.subIn K (.ref (He.ga K x)) (.type "BaseException") = some true ∧
    PySem.W.typeIn K (.ref (He.ga K x)) = some (.type "type") ∧ mg x = some (.ref (He.ga K x))
section
variable {P : Program} {w : World} {K : PySem.W.Frag} {mg : Str → Option Value} {base : Heap} {x : Str} {st : Stmt} {N ps : List Str} {k n : Nat} {Φ : Nat → List LV → CR}
theorem def_at (fn : Fn) (D : Dn K mg x st) (S : FnScope N ps (defScope st)) (hN : fn.nn = N.length) (hp : fn.np = ps.length)
    (hbind : ∀ (kV doc pm : Value) (an : Option Addr) (cdv ct : Value) (us : List Value), us.length = ps.length → bindArgs (PySem.W.fnOf x x (defArgs st) (defBody st) (defScope st) .none kV doc pm an cdv ct) ⟨us, []⟩ = pure (ps.zip us))
    (hb : ∀ (cdv : Value) (A : Around) (outer : List PySem.Env) (s : Shared) (H : Hp) (E : XK) (C : Cb),
      BX (cxOf (L2.CX P w) P w K mg base N x (defScope st) (He.ga K x) cdv A outer s H E) C (fun cls d _ H => E cls d H) k →
      PSs (cxOf (L2.CX P w) P w K mg base N x (defScope st) (He.ga K x) cdv A outer s H E) (defBody st) (tSs C Φ (fun cls d _ H => E cls d H) fn.io n fn.body)) :
    Ok P w K mg base (k + 1) x ps (runFn Φ n fn) := by
  obtain ⟨⟨fd, F⟩, hm⟩ := D
  exact ⟨fd, def_ok fn F S hN hp hb, F.kp, F.bindsN hbind, hm⟩
theorem Ok.up {j : Nat} {g : List LV → CR} (h : Ok P w K mg base j x ps g) (hjk : j ≤ k) : Ok P w K mg base k x ps g := by
  obtain ⟨fd, h1, h2⟩ := h
  exact ⟨fd, h1.mono hjk, h2⟩
end
section
variable {C : Cb} {Φ : Nat → List LV → CR} {W : WX} {X : Cx} {a b c e : Expr} {es : List Expr} {pos p : Pos} {x : Str} {k j : Nat} {ps : List Str} {irs : List Arg}
theorem l_fn (o : XO X C) (h : Ok X.prog X.w X.K X.mg X.base k x ps (Φ j)) (hr : Room k X.A) (hg : Gl X x) (tk : Takes X W) (ha : PA X (e :: es) (tAs C Φ W irs)) (hdb : (x == ("__debug__" : Str)) = false := by decide)
    (he : starEach (e :: es) X.env = (false, eval e X.env) :: starEach es X.env := by rfl) (hpl : (backTo pos (starEach es X.env)).any (·.1) = false := by rfl) : PE X (.Call (.Name x p) (e :: es) [] pos) (tL' C Φ W (.call j irs)) := by
  obtain ⟨fd, F, hk, hb, hm⟩ := h
  exact l_call o F hr hg hm hk hb tk ha hdb he hpl
theorem l_fn0 (o : XO X C) (h : Ok X.prog X.w X.K X.mg X.base k x ps (Φ j)) (hr : Room k X.A) (hg : Gl X x) (tk : Takes X W) (hdb : (x == ("__debug__" : Str)) = false := by decide) : PE X (.Call (.Name x p) [] [] pos) (tL' C Φ W (.call j [])) := by
  obtain ⟨fd, F, hk, hb, hm⟩ := h
  exact l_call0 o F hr hg hm hk hb tk hdb
theorem st_rais {m : Str} {pr : List Nat} {n j : Nat} {p2 cpos : Pos} (o : XC X C) (tk : Takes X W) (q : Xn X.K X.mg x) (hg : Gl X x) (hdb : (x == ("__debug__" : Str)) = false := by decide) : PS X (.Raise (some (.Call (.Name x p) [.Constant (.str m) j p2] [] cpos)) none pos) (tS C Φ W pr n (.raise x)) :=
  st_raise o tk PySem.F.excBase_ValueError q.1 q.2.2.2.2 q.2.1 (raises_own q.2.2.1 q.2.2.2.1) hg hdb
/-- a module's int -/
theorem e_gint {i : Int} {t : Tok} (hg : Gl X x) (hm : ∃ t, X.mg x = some (.int i t)) (hd : (x == ("__debug__" : Str)) = false := by decide) : PE X (.Name x p) (tE C Φ W (.cst (.int i))) := by
  obtain ⟨t, hm⟩ := hm
  exact (pe_glob (v := .int i) hg hm ⟨t, rfl⟩ hd).weak fun _ _ _ q => tE_cst (c := .int i) (fun _ _ => rfl) q
end
section
variable {fa : List He.Fa} {fn : List He.DefD} {K : PySem.W.Frag} {h : Heap} {mg : Str → Option Value}
theorem dn_of (X : K.In h) (G : h.Ns mainGlobals mg) (c : He.SaysD fa fn K) (i j : Nat) {x : Str} {st : Stmt} (hd : fn[i]? = some ⟨(x, none), x, x, defArgs st, defBody st, defScope st, [], []⟩) (hf : fa[j]? = some (.glo x)) : Dn K mg x st := by
  obtain ⟨fd, F⟩ := c.def_ i hd
  exact ⟨⟨fd, F⟩, He.glo_ok X G (c.fact j hf)⟩
theorem xn_of (X : K.In h) (G : h.Ns mainGlobals mg) (c : He.SaysD fa fn K) (i j : Nat) {x : Str} (hd : fa[i]? = some (.exc x)) (hf : fa[j]? = some (.glo x)) : Xn K mg x := by
  obtain ⟨h1, h2, h3, h4⟩ := He.exc_ok (c.fact i hd)
  exact ⟨h1, h2, h3, h4, He.glo_ok X G (c.fact j hf)⟩
theorem fr_of (X : K.In h) (G : h.Ns mainGlobals mg) (c : He.SaysD fa fn K) (j : Nat) {x : Str} (hf : fa[j]? = some (.free x)) : mg x = none := He.free_ok X G (c.fact j hf)
theorem gi_of (X : K.In h) (G : h.Ns mainGlobals mg) (c : He.SaysD fa fn K) (j : Nat) {x : Str} {i : Int} (hf : fa[j]? = some (.int x i)) : ∃ t, mg x = some (.int i t) := He.int_ok X G (c.fact j hf)
end
theorem law_callE {P : Program} {w : World} {K : PySem.W.Frag} {mg mb : Str → Option Value} {CX : CXT} {k : Nat} {fa a : Addr} {x : Str} {sp : Sp} {s₁ : Shared} {vs : List Value} {ns : List Int}
    (KX : K.In s₁.heap) (hns : s₁.heap.Ns mainGlobals mg) (hb : s₁.heap.Ns builtinsNs mb) (hbb : ∀ x : Str, x ≠ "__name__" → mb x = bootBuiltins x) (hlim : s₁.heap.NoLimit) (hg : s₁.gens = #[])
    (ha : s₁.heap.get? a = some { cls := .type "list", data := .seq vs.toArray }) (hi : IntsAre vs ns) (hl : ns.length ≤ sizeLine) (hr : Room k callerA)
    (F : ∀ base : Heap, K.In base → base.Ns mainGlobals mg → ∃ fd, FnOk P w K mg base CX k fa fd [x] sp ∧ Binds K fd [x] [])
    (hsp : ∀ H : Hp, L2.Only H → SqE K H a (ns.map V.int) → sp [.ref a] H (fun v _ => v = .bl true) fun _ _ _ => False)
    (hCX : ∀ H e s', CX [] H s₁ (fun _ _ _ => False) e s' → False) :
    codeAny (model P w) callerA (.call (.ref fa) ⟨[.ref a], []⟩) (fun r s' => r = .ok (.ret (.bool true)) ∧ OldK s₁.heap s'.heap ∧ s'.os = s₁.os ∧ AllBare s'.gens) s₁ := by
  have rv := vals_ints hi
  have lenV := hi.length
  have core : ∀ H : Hp, L2.Only H → SqE K H a (ns.map V.int) → HOk P w H s₁.heap → (∀ b, H b ≠ none → b = a) → (H a ≠ none → K.lookup a = none) →
      codeAny (model P w) callerA (.call (.ref fa) ⟨[.ref a], []⟩) (fun r s' => r = .ok (.ret (.bool true)) ∧ OldK s₁.heap s'.heap ∧ s'.os = s₁.os ∧ AllBare s'.gens) s₁ := by
    intro H hO hS hok hA hK
    have base_of : ∀ {b : Addr} {o : Obj}, s₁.heap.get? b = some o → H b = none → (hidT s₁.heap H).get? b = some o := fun e n => hidT_get e n
    have noA : ∀ {b : Addr} {o : Obj} {es : Array DictEntry} {ep : Nat}, s₁.heap.get? b = some o → o.data = .dict es ep → H b = none := fun {b o es ep} e d => by
      cases q : H b with
      | none => rfl
      | some u =>
        have e' : b = a := hA b (by rw [q]; simp)
        subst e'
        rw [ha] at e; cases e
        have d' : Data.seq vs.toArray _ = Data.dict es ep := d
        cases d'
    have nsK : ∀ {b : Addr} {m : Str → Option Value}, s₁.heap.Ns b m → (hidT s₁.heap H).Ns b m := fun {b m} ⟨o, es, ep, e, d, r⟩ => ⟨o, es, ep, base_of e (noA e d), d, r⟩
    have hKb : K.In (hidT s₁.heap H) := fun b o e => base_of (KX b o e) (by
      cases q : H b with
      | none => rfl
      | some u =>
        have e' : b = a := hA b (by rw [q]; simp)
        subst e'
        rw [hK (by rw [q]; simp)] at e; cases e)
    have hM : Mod K mg (hidT s₁.heap H) := ⟨hKb, nsK hns, ⟨mb, nsK hb, hbb⟩, let ⟨mc, h1, h2⟩ := hlim; ⟨mc, nsK h1, h2⟩⟩
    have e0 : Env0 P w K mg (hidT s₁.heap H) callerA [] s₁ H := ⟨rfl, hM, fun b o e => of_hidT e, Nat.le_of_eq (hidT_size _ _), trivial, fun b hb => absurd (show b ∈ ([] : List Addr) from hb) (by simp), hok, .of_eq hg⟩
    obtain ⟨fd, hF, hB⟩ := F _ hKb (nsK hns)
    refine codeAny_mono (hF.run callerA [] s₁ H ⟨[.ref a], []⟩ [.ref a] [.ref a] _ _ hr e0 (hB s₁ [.ref a] KX rfl) (.cons rfl .nil) (hsp H hO hS)) fun r s' h => ?_
    cases r with
    | error e => exact (hCX H e s' h).elim
    | ok fl =>
      cases fl with
      | next => exact False.elim h
      | brk => exact False.elim h
      | cont => exact False.elim h
      | ret u =>
        obtain ⟨v, H', os, bare, un, hok', r', q⟩ := h
        have q' : v = .bl true := q
        subst q'
        obtain rfl : u = Value.bool true := r'
        refine ⟨rfl, OldK.of_keep fun b o e => ?_, os, bare⟩
        cases q : H b with
        | none => exact un.keep b o e q (by intro z; exact absurd (show b ∈ ([] : List Addr) from z) (by simp)) (by simp)
        | some u =>
          rcases hO b with z | ⟨ob, xs, z⟩
          · rw [q] at z; cases z
          · have z2 := un.frzs b ob _ z
            obtain ⟨e1, _⟩ := hok b _ z
            obtain ⟨e2, _⟩ := hok' b _ z2
            rw [e] at e1; cases e1
            exact e2
  cases hk : K.lookup a with
  | some o =>
    have e := KX a o hk
    rw [ha] at e
    cases e
    refine core (fun _ => none) (fun _ => .inl rfl) (.inr ⟨vs.toArray, _, hk, by rw [List.size_toArray, lenV]; exact hl, by simpa using rv⟩) (fun b u z => by have z' : (none : Option HO) = some u := z; cases z') (fun b z => absurd rfl z) fun z => absurd rfl z
  | none =>
    refine core (fun b => if b = a then some (.frz { cls := .type "list", data := .seq vs.toArray } (.lst (ns.map V.int))) else none) (fun b => ?_) (.inl (.inr ⟨{ cls := .type "list", data := .seq vs.toArray }, if_pos rfl⟩)) (fun b u z => ?_) (fun b z => ?_) fun _ => hk
    · by_cases hb : b = a
      · exact .inr ⟨_, _, if_pos hb⟩
      · exact .inl (if_neg hb)
    · by_cases hb : b = a
      · have z' := (if_pos hb).symm.trans z
        cases z'
        subst hb
        exact ⟨ha, by rw [List.length_map]; exact hl, vs, _, rv, ha⟩
      · have z' := (if_neg hb).symm.trans z
        cases z'
    · by_cases hb : b = a
      · exact hb
      · exact absurd (if_neg hb) z
/-- a law's end over a head by facts: g, what the law's def computes -/
theorem walk_P {l : PySem.W.OpenLaw} {n k : Nat} {q : Program} {loose : List Str} {XP : (Str → Option Value) → Heap → Prop} {YP : World → Heap → Prop} {d : DefRec} {x : Str} {g : List LV → CR}
    (hn : l.most = some n) (hn2 : n ≤ sizeLine) (hdf : d.params.defaults = []) (hr : Room k callerA)
    (pure_ : ∀ ns : List Int, ns.length ≤ n → ∃ ls', g [.fro (.lst (ns.map .int))] = .ok (.fro (.bl true)) ls')
    (F : ∀ (w : World) (mg : Str → Option Value) (h : Heap), YP w h → h.Ns mainGlobals mg →
      ∃ K : PySem.W.Frag, K.In h ∧ ∀ base : Heap, K.In base → base.Ns mainGlobals mg → Ok l.prog w K mg base k d.name [x] g) :
    PySem.W.WalkO q loose XP YP l.row.toRowW d [] (fun f vs => PySem.call f vs) := by
  refine Att.attach_call hn hdf fun w s₀ s₁ mg mb fa o pm cd doc a vs ns G Y ho hd hcd hmg hobj hints hlen hg => ?_
  obtain ⟨K, KX, hF⟩ := F w mg _ Y G.T.g
  refine law_callE (CX := L2.CX l.prog w) (sp := spOf K g) (x := x) KX G.T.g G.T.b G.T.builtins G.T.nolimit hg hobj hints (Nat.le_trans hlen hn2) hr (fun base hK hB => ?_) (fun H hO hS => ?_) fun H e s' h => ?_
  · obtain ⟨fd, h1, h2, h3, h4⟩ := hF base hK hB
    have e := hmg.symm.trans h4
    cases e
    exact ⟨fd, h1, h3⟩
  · refine ⟨H, [.fro (.lst (ns.map .int))], [], ⟨Same.refl H, Same.refl H, fun _ _ h _ => h, fun a h => .inl h, rfl, fun _ => [], fun i l e => ?_, fun i j l m hij e e' => ?_⟩, ?_⟩
    · cases i with
      | zero =>
        cases (show some (some (LV.fro (.lst (ns.map .int)))) = some (some l) from e)
        exact ⟨.ref a, rfl, ⟨⟨a, _, rfl, hS, reps_ints ns⟩, rfl⟩, List.nodup_nil, fun a h => absurd h (by simp)⟩
      | succ i => simp at e
    · intro a ha; cases ha
    · obtain ⟨ls', e⟩ := pure_ ns hlen
      rw [e]
      intro v H' F' s'
      obtain ⟨v', hv, r⟩ := s'.fro (i := 0) rfl
      cases hv
      exact r
  · obtain ⟨_, _, _, _, _, _, _, _, _, _, _, _, z⟩ := h
    exact z
end Br
set_option maxHeartbeats 1000000
/-! BrF1: more operations: count, index, reversed slices, dict(..), bit_length. -/
namespace Br
open PySem PySem.Spec PyProof.Rows L2

section
variable {X : Cx}
theorem count_ds (d : PyData) : ∀ l : List PV, (PV.toDs l).countP (fun z => PyData.eqv z d) = l.countP fun z => PyData.eqv z.toD d
  | [] => rfl
  | p :: l => by
    rw [PV.toDs, List.countP_cons, List.countP_cons, count_ds d l]
theorem toDs_get : ∀ (l : List PV) (j : Nat), (PV.toDs l)[j]? = (l[j]?).map PV.toD
  | [], j => by simp [PV.toDs]
  | p :: l, 0 => by simp [PV.toDs]
  | p :: l, j + 1 => by simp [PV.toDs, toDs_get l j]
/-- l.count(x), t.count(x) of data -/
def rCntD (K : PySem.W.Frag) : V → List V → Hp → VK → Prop := fun x xs H Q => ∃ (a : Addr) (y : V) (d : PyData) (ds : List PyData), x = V.ref a ∧ xs = [y] ∧ Dp K H (V.ref a) (.list ds) ∧ Dp K H y d ∧
  SeqAt.shaped (.list ds) = true ∧ SeqAt.shaped d = true ∧ Q (.int (ds.countP fun z => PyData.eqv z d : Nat)) H
def rCntDT (K : PySem.W.Frag) : V → List V → Hp → VK → Prop := fun x xs H Q => ∃ (a : Addr) (y : V) (d : PyData) (ds : List PyData), x = V.ref a ∧ xs = [y] ∧ Dp K H (V.ref a) (.tuple ds) ∧ Dp K H y d ∧
  SeqAt.shaped (.list ds) = true ∧ SeqAt.shaped d = true ∧ Q (.int (ds.countP fun z => PyData.eqv z d : Nat)) H
theorem mt_lcntD (hu : X.A.units + 65 < cLine) : MtR X "list.count" (rCntD X.K) := by
  intro pins s σ H x xs v us Q I rx rxs h
  obtain ⟨a, y, d, ds, rfl, rfl, hl, hy, sl, sd, q⟩ := h
  cases rx
  cases rxs with
  | cons ry rt =>
    rename_i uy ut
    cases rt
    obtain ⟨bs, r1⟩ := Dp.reads I d y uy hy ry
    have hxs : PyData.canLayAll0 ds = true := SeqAt.canLay_of_shaped sl
    have hroom : X.A.units + 1 + min (PyData.depthAll ds) d.depth < cLine := room_in_shaped sd hu
    cases hl with
    | lst hs ha =>
      obtain ⟨its, rv, ⟨⟨cls, dd, data, sls⟩, n, ho, hc, hdn, hdt⟩, hlen⟩ := I.list hs
      simp only at hc hdt
      subst hc hdt
      obtain ⟨as, h4⟩ := Dp.readsAll I ds _ its ha rv
      have hmap : its.map (SeqAt.readOf s.heap) = ds := SeqAt.readsAll_map ds its as hxs h4
      have hcount : its.toArray.toList.countP (fun u => PyData.eqv (SeqAt.readOf s.heap u) d) = ds.countP fun z => PyData.eqv z d := by
        rw [← hmap, List.countP_map]
        rfl
      refine call_meets PySem.F.slot_list_count ⟨_, ho, rfl⟩ PySem.F.entry_list_count (PySem.F.args_list_count_2 _ _)
        (SeqAt.list_countAt a its.toArray n dd sls uy (fun u => PyData.eqv (SeqAt.readOf s.heap u) d)) ⟨ho, SeqAt.items_eqAt (vs := its.toArray) (show ReadsAll s.heap its.toArray.toList ds as from h4) r1 hxs (SeqAt.canLay_of_shaped sd) hroom, ?_⟩
      rw [hcount]
      exact ⟨.int (ds.countP fun z => PyData.eqv z d : Nat), H, I.tok _, ⟨_, rfl⟩, q⟩
theorem mt_tcntD (hu : X.A.units + 65 < cLine) : MtR X "tuple.count" (rCntDT X.K) := by
  intro pins s σ H x xs v us Q I rx rxs h
  obtain ⟨a, y, d, ds, rfl, rfl, hl, hy, sl, sd, q⟩ := h
  cases rx
  cases rxs with
  | cons ry rt =>
    rename_i uy ut
    cases rt
    obtain ⟨bs, r1⟩ := Dp.reads I d y uy hy ry
    have hxs : PyData.canLayAll0 ds = true := SeqAt.canLay_of_shaped sl
    have hroom : X.A.units + 1 + min (PyData.depthAll ds) d.depth < cLine := room_in_shaped sd hu
    cases hl with
    | tup hs ha =>
      obtain ⟨its, rv, ⟨⟨cls, dd, data, sls⟩, ho, hc, n, hdt⟩, _⟩ := I.tuple hs
      simp only at hc hdt
      subst hc hdt
      obtain ⟨as, h4⟩ := Dp.readsAll I ds _ its ha rv
      have hmap : its.map (SeqAt.readOf s.heap) = ds := SeqAt.readsAll_map ds its as hxs h4
      have hcount : its.toArray.toList.countP (fun u => PyData.eqv (SeqAt.readOf s.heap u) d) = ds.countP fun z => PyData.eqv z d := by
        rw [← hmap, List.countP_map]
        rfl
      refine call_meets PySem.F.slot_tuple_count ⟨_, ho, rfl⟩ PySem.F.entry_tuple_count (PySem.F.args_tuple_count_2 _ _)
        (SeqAt.tuple_countAt a its.toArray n dd sls uy (fun u => PyData.eqv (SeqAt.readOf s.heap u) d)) ⟨ho, SeqAt.items_eqAt (vs := its.toArray) (show ReadsAll s.heap its.toArray.toList ds as from h4) r1 hxs (SeqAt.canLay_of_shaped sd) hroom, ?_⟩
      rw [hcount]
      exact ⟨.int (ds.countP fun z => PyData.eqv z d : Nat), H, I.tok _, ⟨_, rfl⟩, q⟩
theorem cnt_some {l : List PV} {a r : PV} (h : cntP l a = some r) : (PV.lst l).isD 60 = true ∧ a.isD 60 = true ∧ r = .int (l.countP fun z => eqP z a : Nat) := by
  unfold cntP at h
  split at h
  · rename_i hc; cases h; exact ⟨hc.1, hc.2, rfl⟩
  · cases h
theorem rOp_2 {K : PySem.W.Frag} {o : Op} {x y : V} {H : Hp} {Q : VK} (h : rOp K o [x, y] H Q) : ∃ F p t r, Same F H ∧ RepB K F H p x ∧ RepB K F H t y ∧ opSem o [p, t] = some r ∧ ∀ v H', ResR K F H o.new r v H' → Q v H' := by
  obtain ⟨F, ps, r, e, hb, ho, q⟩ := h
  obtain ⟨p, t, rfl, h1, h2⟩ := hb.two
  exact ⟨F, p, t, r, e, h1, h2, ho, q⟩
theorem rOp_1 {K : PySem.W.Frag} {o : Op} {x : V} {H : Hp} {Q : VK} (h : rOp K o [x] H Q) : ∃ F p r, Same F H ∧ RepB K F H p x ∧ opSem o [p] = some r ∧ ∀ v H', ResR K F H o.new r v H' → Q v H' := by
  obtain ⟨F, ps, r, e, hb, ho, q⟩ := h
  obtain ⟨p, rfl, h1⟩ := hb.one
  exact ⟨F, p, r, e, h1, ho, q⟩
theorem MtR.imp {id : String} {r r' : V → List V → Hp → VK → Prop} (h : MtR X id r) (i : ∀ x xs H Q, r' x xs H Q → r x xs H Q) : MtR X id r' :=
  fun pins s σ H x xs v us Q I rx rxs q => h pins s σ H x xs v us Q I rx rxs (i x xs H Q q)
theorem lcnt_ok {K : PySem.W.Frag} {x y : V} {H : Hp} {Q : VK} (h : rOp K .lcnt [x, y] H Q) : rCntD K x [y] H Q := by
  obtain ⟨F, p, t, r, e, h1, h2, ho, q⟩ := rOp_2 h
  cases p with
  | lst l =>
    obtain ⟨d1, d2, rfl⟩ := cnt_some (show cntP l t = some r from ho)
    have r1 := Rep.dp 60 _ _ d1 (h1.rep e)
    have r2 := Rep.dp 60 _ _ d2 (h2.rep e)
    unfold PV.toD at r1
    obtain ⟨a, xs, rfl, _⟩ := h1
    refine ⟨a, y, _, _, rfl, rfl, r1, r2, isD_shape d1, shaped_d d2, ?_⟩
    rw [count_ds]
    exact q _ _ .int
  | _ => cases ho
theorem tcnt_ok {K : PySem.W.Frag} {x y : V} {H : Hp} {Q : VK} (h : rOp K .tcnt [x, y] H Q) : rCntDT K x [y] H Q := by
  obtain ⟨F, p, t, r, e, h1, h2, ho, q⟩ := rOp_2 h
  cases p with
  | tup l =>
    obtain ⟨d1, d2, rfl⟩ := cnt_some (show cntP l t = some r from ho)
    have d1' : (PV.tup l).isD 60 = true := by
      unfold PV.isD at d1 ⊢
      exact d1
    have r1 := Rep.dp 60 _ _ d1' (h1.rep e)
    have r2 := Rep.dp 60 _ _ d2 (h2.rep e)
    unfold PV.toD at r1
    obtain ⟨a, xs, rfl, _⟩ := h1
    refine ⟨a, y, _, _, rfl, rfl, r1, r2, isD_shape d1, shaped_d d2, ?_⟩
    rw [count_ds]
    exact q _ _ .int
  | _ => cases ho
theorem lidx_ok {K : PySem.W.Frag} {x y : V} {H : Hp} {Q : VK} (h : rOp K .lidx [x, y] H Q) : rIndexD K x [y] H Q := by
  obtain ⟨F, p, t, r, e, h1, h2, ho, q⟩ := rOp_2 h
  cases p with
  | lst l =>
    have ho : lidxP [.lst l, t] = some r := ho
    unfold lidxP at ho
    dsimp only at ho
    split at ho
    · rename_i hc
      obtain ⟨j, hj, rfl⟩ := Option.map_eq_some_iff.mp ho
      obtain ⟨hjl, hj1, hj2⟩ := List.findIdx?_eq_some_iff_getElem.mp hj
      have r1 := Rep.dp 60 _ _ hc.1 (h1.rep e)
      have r2 := Rep.dp 60 _ _ hc.2.1 (h2.rep e)
      unfold PV.toD at r1
      obtain ⟨a, xs, rfl, _⟩ := h1
      refine ⟨a, y, _, _, j, (l[j]).toD, rfl, rfl, r1, r2, isD_shape hc.1, shaped_d hc.2.1, ?_, hj1, fun m z' hm hz => ?_, q _ _ .int⟩
      · rw [toDs_get, List.getElem?_eq_getElem hjl]; rfl
      · have hml : m < l.length := by omega
        rw [toDs_get, List.getElem?_eq_getElem hml] at hz
        cases hz
        have := hj2 m hm
        simpa [eqP] using this
    · cases ho
  | _ => cases ho
end

section
variable {C : Cb} {Φ : Nat → List LV → CR} {W : WX} {X : Cx} {a b c e : Expr} {es : List Expr} {pos p : Pos} {x : Str} {ia ib ic : Arg}
theorem tyV_l {K : PySem.W.Frag} {F H : Hp} {l : List PV} {x : V} (e : Same F H) (h : RepB K F H (.lst l) x) : tyV K "list" x H := by
  obtain ⟨a, xs, rfl, h1, _⟩ := h
  exact .inl ⟨rfl, xs, h1.sql⟩
theorem tM_one {op : Op} {T : String} {r : V → List V → Hp → VK → Prop} (hr : ∀ p, recvOk op (some p) = true → ∀ F H x, Same F H → RepB C.K F H p x → tyV C.K T x H)
    (hq : ∀ x y H Q, rOp C.K op [x, y] H Q → r x [y] H Q) {σ : L2.St} {H : Hp} {Q : VK} (q : tM C Φ W op ia [ib] σ H Q) : tBM C.K T r (tA1 C Φ W ia) (tCons (tA1 C Φ W ib) tNil) σ H Q := by
  refine tA1.imp q fun x H1 k => ?_
  obtain ⟨⟨F, p, e, hrc, hp⟩, k⟩ := k
  refine ⟨hr p hrc F H1 x e hp, ?_⟩
  have k2 : tA1 C Φ W ib σ H1 fun v H2 => tAs C Φ W [] σ H2 fun vs H3 => rOp C.K op (x :: v :: vs) H3 Q := tAs_cons k
  exact tA1.imp k2 fun v H2 k3 => hq _ _ _ _ (tAs_nil k3)
theorem recv_l {op : Op} (h : ∀ p, recvOk op (some p) = true → ∃ l, p = .lst l) : ∀ p, recvOk op (some p) = true → ∀ F H x, Same F H → RepB C.K F H p x → tyV C.K "list" x H := fun p hp F H x e hx => by
  obtain ⟨l, rfl⟩ := h p hp
  exact tyV_l e hx
theorem m_lcnt (o : XO X C) {apos cpos : Pos} (ha : PE X a (tA1 C Φ W ia)) (hb : PE X b (tA1 C Φ W ib)) (hs : starEach [b] X.env = (false, eval b X.env) :: starEach [] X.env := by rfl)
    (hbase : attributeBase a "count" X.env (eval a X.env) = eval a X.env := by rfl)
    (hfew : ((backTo cpos (starEach [b] X.env)).all (fun x => !x.1) && (backToKw cpos (keywordEach [] X.env)).all (fun x => x.1.isSome)
      && decide (([b] : List Expr).length + ([] : List Keyword).length + (if ([] : List Keyword).isEmpty then 0 else 1) < 30)) = true := by rfl)
    (hline : (apos.endLine == cpos.line) = true := by rfl) : PE X (.Call (.Attribute a "count" apos) [b] [] cpos) (tM C Φ W .lcnt ia [ib]) :=
  (pe_bm PySem.F.plainAttrs_list PySem.F.slot_list_count PySem.F.type_list_count (mt_lcntD (un65 o)) ha (pa_cons hb pa_nil hs) hbase hfew hline hs rfl).weak fun σ H Q q => by
    rw [← o.K]
    exact tM_one (recv_l fun p hp => by cases p <;> first | exact ⟨_, rfl⟩ | cases hp) (fun x y H Q h => lcnt_ok h) q
theorem m_lidx (o : XO X C) {apos cpos : Pos} (ha : PE X a (tA1 C Φ W ia)) (hb : PE X b (tA1 C Φ W ib)) (hs : starEach [b] X.env = (false, eval b X.env) :: starEach [] X.env := by rfl)
    (hbase : attributeBase a "index" X.env (eval a X.env) = eval a X.env := by rfl)
    (hfew : ((backTo cpos (starEach [b] X.env)).all (fun x => !x.1) && (backToKw cpos (keywordEach [] X.env)).all (fun x => x.1.isSome)
      && decide (([b] : List Expr).length + ([] : List Keyword).length + (if ([] : List Keyword).isEmpty then 0 else 1) < 30)) = true := by rfl)
    (hline : (apos.endLine == cpos.line) = true := by rfl) : PE X (.Call (.Attribute a "index" apos) [b] [] cpos) (tM C Φ W .lidx ia [ib]) :=
  (pe_bm PySem.F.plainAttrs_list PySem.F.slot_list_index PySem.F.type_list_index (mt_indexD (un65 o)) ha (pa_cons hb pa_nil hs) hbase hfew hline hs rfl).weak fun σ H Q q => by
    rw [← o.K]
    exact tM_one (recv_l fun p hp => by cases p <;> first | exact ⟨_, rfl⟩ | cases hp) (fun x y H Q h => lidx_ok h) q
/-- n.bit_length() -/
theorem o_bits {apos cpos : Pos} (ha : PE X a (tA1 C Φ W ia)) (hbase : attributeBase a "bit_length" X.env (eval a X.env) = eval a X.env := by rfl) (hline : (apos.endLine == cpos.line) = true := by rfl) : PE X (.Call (.Attribute a "bit_length" apos) [] [] cpos) (tO C Φ W .bits [ia]) :=
  (pe_bits ha hbase hline).weak fun σ H Q q => (tO_1 q).imp fun x H1 k => by
    obtain ⟨F, p, r, e, h1, ho, q⟩ := rOp_1 k
    cases p with
    | int i =>
      cases ho
      exact ⟨i, h1, q _ _ .int⟩
    | _ => cases ho
/-- l[::-1] -/
theorem o_rev {k : Nat} {p1 p2 p3 : Pos} (o : XO X C) (ha : PE X a (tA1 C Φ W ia)) : PE X (.Subscript a (.Slice none none (some (.UnaryOp .USub (.Constant (.int 1) k p1) p2)) p3) pos) (tO C Φ W .rev [ia]) :=
  (pe_revL ha).weak fun σ H Q q => (tO_1 q).imp fun x H1 k => by
    obtain ⟨F, p, r, e, h1, ho, q⟩ := rOp_1 k
    cases p with
    | lst l =>
      cases ho
      obtain ⟨a, xs, rfl, h2, h3⟩ := h1
      exact ⟨a, xs, rfl, by rw [← o.K]; exact h2.sql, fun p hp => q _ _ (.lst hp h3.reverse)⟩
    | _ => cases ho
end
end Br
set_option maxHeartbeats 1000000
/-! BrF2: sorted, min, max of data. -/
namespace Br
open PySem PySem.Spec PyProof.Rows L2

section
variable {X : Cx}
theorem map_fst_zip' {α β : Type} : ∀ {l : List α} {m : List β}, l.length = m.length → (l.zip m).map (·.1) = l
  | [], _, _ => rfl
  | a :: l, [], h => by cases h
  | a :: l, b :: m, h => by
    rw [List.zip_cons_cons, List.map_cons, map_fst_zip' (by simpa using h)]
theorem each_zip {K : PySem.W.Frag} {F : Hp} : ∀ {l : List PV} {xs : List V} {its : List Value}, Reps K F l xs → Vals xs its → PySem.W.EachIs (fun v (b : PV × V) => RelV b.2 v ∧ Rep K F b.1 b.2) its (l.zip xs)
  | [], xs, its, h, r => by
    have h0 : xs = [] := h
    subst h0
    cases r
    exact .nil
  | p :: l, xs, its, h, r => by
    obtain ⟨x, xr, rfl, h1, h2⟩ := h
    cases r with
    | cons rx rr => exact .cons ⟨rx, h1⟩ (each_zip h2 rr)
theorem each_out {K : PySem.W.Frag} {F : Hp} : ∀ {out : List Value} {bs : List (PV × V)}, PySem.W.EachIs (fun v (b : PV × V) => RelV b.2 v ∧ Rep K F b.1 b.2) out bs → Vals (bs.map (·.2)) out ∧ Reps K F (bs.map (·.1)) (bs.map (·.2))
  | _, _, .nil => ⟨.nil, rfl⟩
  | _, _, .cons h t => by
    obtain ⟨h1, h2⟩ := each_out t
    exact ⟨.cons h.1 h1, .cons h.2 h2⟩
theorem each_mem2 {α β : Type} {R S : α → β → Prop} : ∀ {as : List α} {bs : List β}, PySem.W.EachIs R as bs → (∀ a b, b ∈ bs → R a b → S a b) → PySem.W.EachIs S as bs
  | _, _, .nil, _ => .nil
  | _, _, .cons h t, i => .cons (i _ _ (by simp) h) (each_mem2 t fun a b hb => i a b (by simp [hb]))
theorem isD_mem {l : List PV} {n : Nat} (h : (PV.lst l).isD (n + 1) = true) {p : PV} (hp : p ∈ l) : p.isD n = true := by
  unfold PV.isD at h
  exact List.all_eq_true.mp h p hp
theorem isD_depth : ∀ (n : Nat) (p : PV), p.isD n = true → p.toD.depth ≤ n
  | _, .non, _ => by simp [PV.toD, PyData.depth]
  | _, .bl _, _ => by simp [PV.toD, PyData.depth]
  | _, .int _, _ => by simp [PV.toD, PyData.depth]
  | _, .str _, _ => by simp [PV.toD, PyData.depth]
  | n, .ty _, _ => by simp [PV.toD, PyData.depth]
  | n, .exc _, _ => by simp [PV.toD, PyData.depth]
  | n, .dK _ _, _ => by simp [PV.toD, PyData.depth]
  | n, .dT _ _, _ => by simp [PV.toD, PyData.depth]
  | 0, .tup l, h => by simp [PV.isD] at h
  | 0, .lst l, h => by simp [PV.isD] at h
  | 0, .xt l, h => by simp [PV.isD] at h
  | n + 1, .tup l, h => by
    unfold PV.isD at h
    have := all_depth n l h
    simp only [PV.toD, PyData.depth]
    omega
  | n + 1, .xt l, h => by
    unfold PV.isD at h
    have := all_depth n l h
    simp only [PV.toD, PyData.depth]
    omega
  | n + 1, .lst l, h => by
    unfold PV.isD at h
    have := all_depth n l h
    simp only [PV.toD, PyData.depth]
    omega
where all_depth (n : Nat) : ∀ l : List PV, l.all (PV.isD n) = true → PyData.depthAll (PV.toDs l) ≤ n
  | [], _ => by simp [PV.toDs, PyData.depthAll]
  | p :: l, h => by
    rw [List.all_cons, Bool.and_eq_true] at h
    have h1 := isD_depth n p h.1
    have h2 := all_depth n l h.2
    simp only [PV.toDs, PyData.depthAll]
    omega
theorem toDs_map : ∀ l : List PV, PV.toDs l = l.map PV.toD
  | [] => rfl
  | p :: l => by rw [PV.toDs, toDs_map l]; rfl
theorem leD_eq : (PySem.W.dataLe false PV.toD) = leD := rfl
/-- sorted(l) of data -/
theorem cr_sortX (hu : X.A.units + 131 < cLine) : CallR X (.builtin "sorted") (fun xs H Q => ∃ F x l, Same F H ∧ xs = [x] ∧ RepB X.K F H (.lst l) x ∧ sortOk l = true ∧ ∀ v H', ResR X.K F H true (.lst (sortD l)) v H' → Q v H') := by
  intro pins s σ H vs us Q I r h
  obtain ⟨F, x, l, eF, rfl, hb, hok, q⟩ := h
  obtain ⟨a, xs, rfl, hs, hr⟩ := hb
  obtain ⟨its, rv, hl, hz⟩ := I.list hs.sql
  rw [Vals.ref1 r]
  unfold sortOk at hok
  simp only [Bool.and_eq_true] at hok
  obtain ⟨⟨⟨hd, hal⟩, hk⟩, hlim⟩ := hok
  have hlen : l.length = xs.length := hr.length
  let bs := l.zip xs
  have hbl : bs.length = l.length := by simp [bs, hlen]
  have hfst : bs.map (·.1) = l := map_fst_zip' hlen
  have hmem : ∀ b ∈ bs, b.1 ∈ l := fun b hb => (List.of_mem_zip hb).1
  have e := each_zip hr rv
  have er : PySem.W.EachIs (fun v (b : PV × V) => ∃ as, Reads s.heap v (b.1.toD) as) its bs := each_mem2 e fun v b hb hR =>
    Dp.reads I _ b.2 v (Rep.dp 59 _ _ (isD_mem (n := 59) hd (hmem b hb)) (hR.2.mono eF)) hR.1
  have hmD : ∀ d, d ∈ bs.map (fun b => b.1.toD) → ∃ p ∈ l, d = p.toD := fun d hd => by
    obtain ⟨b, hb, rfl⟩ := List.mem_map.mp hd
    exact ⟨b.1, hmem b hb, rfl⟩
  have hall : PySem.W.AllAlike (bs.map fun b => b.1.toD) := fun d hd d' hd' => by
    obtain ⟨p, hp, rfl⟩ := hmD d hd
    obtain ⟨p', hp', rfl⟩ := hmD d' hd'
    exact List.all_eq_true.mp (List.all_eq_true.mp hal p hp) p' hp'
  have hsrt : PySem.W.Sortable (bs.map fun b => b.1.toD) := by
    rcases Bool.or_eq_true_iff.mp hk with h | h
    · refine .inl fun d hd => ?_
      obtain ⟨p, hp, rfl⟩ := hmD d hd
      have h1 := List.all_eq_true.mp h p hp
      cases p with
      | tup m => cases m with
        | nil => cases h1
        | cons y m => exact ⟨y.toD, PV.toDs m, by rw [PV.toD, PV.toDs]⟩
      | _ => cases h1
    · refine .inr fun d hd' => ?_
      obtain ⟨p, hp, rfl⟩ := hmD d hd'
      have h1 := List.all_eq_true.mp h p hp
      have h2 := isD_mem (n := 59) hd hp
      cases p with
      | non => cases h1
      | tup m => cases h1
      | bl b => exact ⟨by simp [PV.toD], by simp [PV.toD]⟩
      | int b => exact ⟨by simp [PV.toD], by simp [PV.toD]⟩
      | str b => exact ⟨by simp [PV.toD], by simp [PV.toD]⟩
      | lst b => exact ⟨by simp [PV.toD], by simp [PV.toD]⟩
      | xt b => cases h1
      | _ => simp [PV.isD] at h2
  refine PySem.W.sorted_data (enc := fun b : PV × V => b.1.toD) (R := fun v (b : PV × V) => RelV b.2 v ∧ Rep X.K F b.1 b.2) hl.isList e er hall hsrt (by rw [hbl, hlen]; exact hz) (fun b hb => ?_) fun out hol hout => ?_
  · have h1 := isD_depth 59 _ (isD_mem (n := 59) hd (hmem b hb))
    omega
  · obtain ⟨v1, r1⟩ := each_out hout
    obtain ⟨ep, he'⟩ := PyProof.Rows.sortedAll_at s.heap its out.toArray
    have hst : (bs.mergeSort (PySem.W.dataLe false fun b : PV × V => b.1.toD)).map (·.1) = sortD l := by
      unfold sortD
      exact (List.map_mergeSort (r := PySem.W.dataLe false fun b : PV × V => b.1.toD) (s := leD) (f := fun x : PV × V => x.1) (l := bs) (fun a _ b _ => rfl)).trans (by rw [hfst])
    have hylen : ((bs.mergeSort (PySem.W.dataLe false fun b : PV × V => b.1.toD)).map (·.2)).length ≤ sizeLine := by
      rw [List.length_map, (List.mergeSort_perm _ _).length_eq, hbl, hlen]
      exact hz
    rw [hst] at r1
    exact ⟨.ref _, upd H (s.heap.objs.size + 1) (.lst ((bs.mergeSort (PySem.W.dataLe false fun b : PV × V => b.1.toD)).map (·.2))), I.laid (t' := s.toks) (fun _ _ => PyProof.Rows.sortedAll_old) (Nat.le_succ _) ⟨hylen, out, ep, v1, he'⟩, rfl, q _ _ (.lst (I.hok.fresh (Nat.le_succ _)) r1)⟩
/-- sorted([x]) -/
theorem cr_sort1 : CallR X (.builtin "sorted") (fun xs H Q => ∃ F x p, Same F H ∧ xs = [x] ∧ RepB X.K F H (.lst [p]) x ∧ ∀ v H', ResR X.K F H true (.lst [p]) v H' → Q v H') := by
  intro pins s σ H vs us Q I r h
  obtain ⟨F, x, p, eF, rfl, hb, q⟩ := h
  obtain ⟨a, xs, rfl, hs, hr⟩ := hb
  obtain ⟨its, rv, hl, hz⟩ := I.list hs.sql
  rw [Vals.ref1 r]
  have h1 : xs.length = 1 := hr.length.symm
  have h2 : its.length = 1 := by rw [← rv.length]; exact h1
  refine SrtO.sorted_ord SrtO.swo_int hl.isList (by rw [← rv.length]; exact hz) (fun h3 h₁ a' _ _ => absurd h3 (by omega)) fun out h3 h4 => ?_
  have ho : out = its := by
    match its, h2 with
    | [z], _ => exact List.perm_singleton.mp h4.perm
  subst ho
  obtain ⟨ep, he'⟩ := PyProof.Rows.sortedAll_at s.heap out out.toArray
  exact ⟨.ref _, upd H (s.heap.objs.size + 1) (.lst xs), I.laid (t' := s.toks) (fun _ _ => PyProof.Rows.sortedAll_old) (Nat.le_succ _) ⟨hz, out, ep, rv, he'⟩, rfl, q _ _ (.lst (I.hok.fresh (Nat.le_succ _)) hr)⟩
theorem cr_sortedD (hc : X.calm = true) (hu : X.A.units + 131 < cLine) : CallR X (.builtin "sorted") (RCof X.K .sortedD) := by
  refine CallR.pick fun pins s σ H xs Q I h => ?_
  obtain ⟨F, ps, r, e, hb, ho, q⟩ := h
  have ho : sortedDP ps = some r := ho
  unfold sortedDP at ho
  split at ho
  · rename_i r' h1
    cases ho
    exact ⟨_, cr_sortedL hc, F, ps, r, e, hb, h1, q⟩
  · split at ho
    · rename_i l
      cases xs with
      | nil => obtain ⟨v, r, e, _⟩ := hb; cases e
      | cons x xr =>
        obtain ⟨v, rr, e1, h2, h3⟩ := hb
        cases e1
        have h3' : xr = [] := h3
        subst h3'
        unfold sortX at ho
        split at ho
        · cases ho
          exact ⟨_, cr_sort1, F, x, _, e, rfl, h2, q⟩
        · split at ho
          · rename_i hok
            cases ho
            exact ⟨_, cr_sortX hu, F, x, _, e, rfl, h2, hok, q⟩
          · cases ho
    · cases ho
theorem fold_toD (f : PyData → PyData → Bool) : ∀ (l : List PV) (x : PV), (l.foldl (fun a y => if f a.toD y.toD = true then y else a) x).toD = (l.map PV.toD).foldl (fun a y => if f a y = true then y else a) x.toD
  | [], x => rfl
  | y :: l, x => by
    rw [List.foldl_cons, List.map_cons, List.foldl_cons, fold_toD f l]
    congr 1
    split <;> rfl
theorem fold_mem (f : PV → PV → Bool) : ∀ (l : List PV) (x : PV), l.foldl (fun a y => if f a y = true then y else a) x ∈ x :: l
  | [], x => by simp
  | y :: l, x => by
    rw [List.foldl_cons]
    have h := fold_mem f l (if f x y = true then y else x)
    rcases List.mem_cons.mp h with h | h
    · rw [h]; split <;> simp
    · exact List.mem_cons_of_mem _ (List.mem_cons_of_mem _ h)
theorem isT_isD : ∀ (n : Nat) (p : PV), p.isT n = true → p.isD n = true
  | n, .non, _ => by cases n <;> simp [PV.isD]
  | n, .bl _, _ => by cases n <;> simp [PV.isD]
  | n, .int _, _ => by cases n <;> simp [PV.isD]
  | n, .str _, h => by
    cases n <;> (unfold PV.isT at h; unfold PV.isD; exact h)
  | n, .ty _, h => by cases n <;> simp [PV.isT] at h
  | n, .exc _, h => by cases n <;> simp [PV.isT] at h
  | n, .dK _ _, h => by cases n <;> simp [PV.isT] at h
  | n, .dT _ _, h => by cases n <;> simp [PV.isT] at h
  | n, .xt _, h => by cases n <;> simp [PV.isT] at h
  | 0, .tup l, h => by simp [PV.isT] at h
  | 0, .lst l, h => by simp [PV.isT] at h
  | n + 1, .tup l, h => by
    unfold PV.isT at h
    unfold PV.isD
    exact List.all_eq_true.mpr fun p hp => isT_isD n p (List.all_eq_true.mp h p hp)
  | n + 1, .lst l, h => by
    unfold PV.isT at h
    unfold PV.isD
    exact List.all_eq_true.mpr fun p hp => isT_isD n p (List.all_eq_true.mp h p hp)
mutual
theorem toD_inj : ∀ (n : Nat) (p q : PV), p.isT n = true → q.isT n = true → p.toD = q.toD → p = q
  | n, p, q, hp, hq, h => by
    match n, p, q, hp, hq, h with
    | _, .non, .non, _, _, _ => rfl
    | _, .bl a, .bl b, _, _, h => simp only [PV.toD, PyData.bool.injEq] at h; rw [h]
    | _, .int a, .int b, _, _, h => simp only [PV.toD, PyData.int.injEq] at h; rw [h]
    | _, .str a, .str b, _, _, h => simp only [PV.toD, PyData.str.injEq] at h; rw [h]
    | n + 1, .tup a, .tup b, hp, hq, h =>
      simp only [PV.toD, PyData.tuple.injEq] at h
      unfold PV.isT at hp hq
      rw [toDs_inj n a b hp hq h]
    | n + 1, .lst a, .lst b, hp, hq, h =>
      simp only [PV.toD, PyData.list.injEq] at h
      unfold PV.isT at hp hq
      rw [toDs_inj n a b hp hq h]
    | _, .non, .bl _, _, _, h => simp [PV.toD] at h
    | _, .non, .int _, _, _, h => simp [PV.toD] at h
    | _, .non, .str _, _, _, h => simp [PV.toD] at h
    | _, .non, .tup _, _, _, h => simp [PV.toD] at h
    | _, .non, .lst _, _, _, h => simp [PV.toD] at h
    | _, .bl _, .non, _, _, h => simp [PV.toD] at h
    | _, .bl _, .int _, _, _, h => simp [PV.toD] at h
    | _, .bl _, .str _, _, _, h => simp [PV.toD] at h
    | _, .bl _, .tup _, _, _, h => simp [PV.toD] at h
    | _, .bl _, .lst _, _, _, h => simp [PV.toD] at h
    | _, .int _, .non, _, _, h => simp [PV.toD] at h
    | _, .int _, .bl _, _, _, h => simp [PV.toD] at h
    | _, .int _, .str _, _, _, h => simp [PV.toD] at h
    | _, .int _, .tup _, _, _, h => simp [PV.toD] at h
    | _, .int _, .lst _, _, _, h => simp [PV.toD] at h
    | _, .str _, .non, _, _, h => simp [PV.toD] at h
    | _, .str _, .bl _, _, _, h => simp [PV.toD] at h
    | _, .str _, .int _, _, _, h => simp [PV.toD] at h
    | _, .str _, .tup _, _, _, h => simp [PV.toD] at h
    | _, .str _, .lst _, _, _, h => simp [PV.toD] at h
    | _, .tup _, .non, _, _, h => simp [PV.toD] at h
    | _, .tup _, .bl _, _, _, h => simp [PV.toD] at h
    | _, .tup _, .int _, _, _, h => simp [PV.toD] at h
    | _, .tup _, .str _, _, _, h => simp [PV.toD] at h
    | _, .tup _, .lst _, _, _, h => simp [PV.toD] at h
    | _, .lst _, .non, _, _, h => simp [PV.toD] at h
    | _, .lst _, .bl _, _, _, h => simp [PV.toD] at h
    | _, .lst _, .int _, _, _, h => simp [PV.toD] at h
    | _, .lst _, .str _, _, _, h => simp [PV.toD] at h
    | _, .lst _, .tup _, _, _, h => simp [PV.toD] at h
    | 0, .tup _, .tup _, hp, _, _ => simp [PV.isT] at hp
    | 0, .lst _, .lst _, hp, _, _ => simp [PV.isT] at hp
    | n, .ty _, _, hp, _, _ => cases n <;> simp [PV.isT] at hp
    | n, .xt _, _, hp, _, _ => cases n <;> simp [PV.isT] at hp
    | n, _, .xt _, _, hq, _ => cases n <;> simp [PV.isT] at hq
    | n, .exc _, _, hp, _, _ => cases n <;> simp [PV.isT] at hp
    | n, .dK _ _, _, hp, _, _ => cases n <;> simp [PV.isT] at hp
    | n, .dT _ _, _, hp, _, _ => cases n <;> simp [PV.isT] at hp
    | n, _, .ty _, _, hq, _ => cases n <;> simp [PV.isT] at hq
    | n, _, .exc _, _, hq, _ => cases n <;> simp [PV.isT] at hq
    | n, _, .dK _ _, _, hq, _ => cases n <;> simp [PV.isT] at hq
    | n, _, .dT _ _, _, hq, _ => cases n <;> simp [PV.isT] at hq
theorem toDs_inj : ∀ (n : Nat) (l m : List PV), l.all (PV.isT n) = true → m.all (PV.isT n) = true → PV.toDs l = PV.toDs m → l = m
  | _, [], [], _, _, _ => rfl
  | _, [], _ :: _, _, _, h => by simp [PV.toDs] at h
  | _, _ :: _, [], _, _, h => by simp [PV.toDs] at h
  | n, p :: l, q :: m, hl, hm, h => by
    rw [List.all_cons, Bool.and_eq_true] at hl hm
    simp only [PV.toDs, List.cons.injEq] at h
    rw [toD_inj n p q hl.1 hm.1 h.1, toDs_inj n l m hl.2 hm.2 h.2]
end
theorem reads_fun {h : Heap} {v : Value} {d d' : PyData} {as bs : List Addr} (r : Reads h v d as) (r' : Reads h v d' bs) (c : d.canLay0 = true) (c' : d'.canLay0 = true) : d = d' := by
  have h1 := SeqAt.readsAll_map [d] [v] _ (by simp [PyData.canLayAll0, c]) (.cons r .nil)
  have h2 := SeqAt.readsAll_map [d'] [v] _ (by simp [PyData.canLayAll0, c']) (.cons r' .nil)
  simpa using h1.symm.trans h2
theorem min_pick {h : Heap} {K : PySem.W.Frag} {F : Hp} {l : List PV} {xs : List V} {its : List Value} {r : PV} {i : Nat} {v : Value} {bs : List Addr} {d : PyData} (hr : Reps K F l xs) (rv : Vals xs its) (hd : l.all (PV.isT 59) = true)
    (hm : r ∈ l) (hv : its[i]? = some v) (er : r.toD = d) (rd : Reads h v d bs) (all : ∀ (p : PV) (x : V) (u : Value), p ∈ l → Rep K F p x → RelV x u → ∃ as, Reads h u p.toD as) : ∃ x, RelV x v ∧ Rep K F r x := by
  have hl : i < its.length := (List.getElem?_eq_some_iff.mp hv).1
  have hxl : i < xs.length := by rw [rv.length]; exact hl
  obtain ⟨p, hp, rp⟩ := hr.get' (List.getElem?_eq_getElem hxl)
  obtain ⟨u, hu, ru⟩ := rv.get (List.getElem?_eq_getElem hxl)
  rw [hv] at hu
  cases hu
  have hpm := List.mem_of_getElem? hp
  obtain ⟨as, r1⟩ := all p _ v hpm rp ru
  have dp := List.all_eq_true.mp hd p hpm
  have dr := List.all_eq_true.mp hd r hm
  subst er
  have e := reads_fun r1 rd (canLay_d 59 p (isT_isD _ _ dp)) (canLay_d 59 r (isT_isD _ _ dr))
  have e2 := toD_inj 59 p r dp dr e
  subst e2
  exact ⟨_, ru, rp⟩
theorem minOk_of {l : List PV} (h : minOk l = true) : l.all (PV.isT 59) = true ∧ l.all (PV.isD 59) = true ∧ PySem.W.AlikeAll (l.map PV.toD) := by
  unfold minOk at h
  simp only [Bool.and_eq_true] at h
  obtain ⟨⟨hT, hal⟩, hn⟩ := h
  have hd := isT_isD _ _ hT
  refine ⟨by unfold PV.isT at hT; exact hT, by unfold PV.isD at hd; exact hd, fun d h1 d' h2 => ?_, fun d h1 => ?_⟩
  · obtain ⟨p, hp, rfl⟩ := List.mem_map.mp h1
    obtain ⟨p', hp', rfl⟩ := List.mem_map.mp h2
    exact List.all_eq_true.mp (List.all_eq_true.mp hal p hp) p' hp'
  · obtain ⟨p, hp, rfl⟩ := List.mem_map.mp h1
    have h2 := isD_mem (n := 59) hd hp
    have h3 := List.all_eq_true.mp hn p hp
    cases p with
    | non => cases h3
    | bl b => simp [PV.toD]
    | int b => simp [PV.toD]
    | str b => simp [PV.toD]
    | lst b => simp [PV.toD]
    | tup b => simp [PV.toD]
    | xt b => simp [PV.toD]
    | _ => simp [PV.isD] at h2
/-- min(l), max(l) of data -/
theorem cr_minX (hc : X.calm = true) (hu : X.A.units + 131 < cLine) : CallR X (.builtin "min") (fun xs H Q => ∃ F x p l, Same F H ∧ xs = [x] ∧ RepB X.K F H (.lst (p :: l)) x ∧ minOk (p :: l) = true ∧ ∀ v, Rep X.K F (l.foldl (fun a y => if ltD y a = true then y else a) p) v → Q v H) := by
  intro pins s σ H vs us Q I r h
  obtain ⟨F, x, p, l, eF, rfl, hb, hok, q⟩ := h
  obtain ⟨a, xs, rfl, hs, hr⟩ := hb
  obtain ⟨its, rv, hl, hz⟩ := I.list hs.sql
  rw [Vals.ref1 r]
  obtain ⟨hT, hd, hal⟩ := minOk_of hok
  obtain ⟨as, h4⟩ := Dp.readsAll I _ _ its (Reps.dp 59 _ _ hd (Reps.mono eF hr)) rv
  rw [toDs_map] at h4
  have hdep : PyData.depthAll ((p :: l).map PV.toD) ≤ 59 := by rw [← toDs_map]; exact isD_depth.all_depth 59 _ hd
  refine PySem.W.min_list_data (x := p.toD) (xs := l.map PV.toD) (I.ok.hd hc) hl.isList (by simpa using h4) hal (by rw [List.map_cons] at hdep; omega) fun i v h' tk bs hv rd hk => ?_
  have ef : (l.foldl (fun a y => if ltD y a = true then y else a) p).toD = PySem.W.minD p.toD (l.map PV.toD) := fold_toD (fun a y => PySem.W.dataLt y a) l p
  obtain ⟨z, rz, hz2⟩ := min_pick hr rv hT (fold_mem (fun a y => ltD y a) l p) (by simpa using hv) ef rd (fun p' x' u hp' hx' hu' => by
    obtain ⟨as, r1⟩ := Dp.reads I _ x' u (Rep.dp 59 _ _ (List.all_eq_true.mp hd p' hp') (hx'.mono eF)) hu'
    exact ⟨as, PyProof.Rows.Reads.keeps hk r1⟩)
  exact ⟨z, H, I.kept hk, rz, q z hz2⟩
theorem cr_maxX (hc : X.calm = true) (hu : X.A.units + 131 < cLine) : CallR X (.builtin "max") (fun xs H Q => ∃ F x p l, Same F H ∧ xs = [x] ∧ RepB X.K F H (.lst (p :: l)) x ∧ minOk (p :: l) = true ∧ ∀ v, Rep X.K F (l.foldl (fun a y => if ltD a y = true then y else a) p) v → Q v H) := by
  intro pins s σ H vs us Q I r h
  obtain ⟨F, x, p, l, eF, rfl, hb, hok, q⟩ := h
  obtain ⟨a, xs, rfl, hs, hr⟩ := hb
  obtain ⟨its, rv, hl, hz⟩ := I.list hs.sql
  rw [Vals.ref1 r]
  obtain ⟨hT, hd, hal⟩ := minOk_of hok
  obtain ⟨as, h4⟩ := Dp.readsAll I _ _ its (Reps.dp 59 _ _ hd (Reps.mono eF hr)) rv
  rw [toDs_map] at h4
  have hdep : PyData.depthAll ((p :: l).map PV.toD) ≤ 59 := by rw [← toDs_map]; exact isD_depth.all_depth 59 _ hd
  refine PySem.W.max_list_data (x := p.toD) (xs := l.map PV.toD) (I.ok.hd hc) hl.isList (by simpa using h4) hal (by rw [List.map_cons] at hdep; omega) fun i v h' tk bs hv rd hk => ?_
  have ef : (l.foldl (fun a y => if ltD a y = true then y else a) p).toD = PySem.W.maxD p.toD (l.map PV.toD) := fold_toD (fun a y => PySem.W.dataLt a y) l p
  obtain ⟨z, rz, hz2⟩ := min_pick hr rv hT (fold_mem (fun a y => ltD a y) l p) (by simpa using hv) ef rd (fun p' x' u hp' hx' hu' => by
    obtain ⟨as, r1⟩ := Dp.reads I _ x' u (Rep.dp 59 _ _ (List.all_eq_true.mp hd p' hp') (hx'.mono eF)) hu'
    exact ⟨as, PyProof.Rows.Reads.keeps hk r1⟩)
  exact ⟨z, H, I.kept hk, rz, q z hz2⟩
theorem isT_of {h : Heap} {a : Addr} {its : Array Value} (x : IsTup h a its) : h.IsTuple a its := x
theorem cr_minXt (hc : X.calm = true) (hu : X.A.units + 131 < cLine) : CallR X (.builtin "min") (fun xs H Q => ∃ F x p l, Same F H ∧ xs = [x] ∧ RepB X.K F H (.tup (p :: l)) x ∧ minOk (p :: l) = true ∧ ∀ v, Rep X.K F (l.foldl (fun a y => if ltD y a = true then y else a) p) v → Q v H) := by
  intro pins s σ H vs us Q I r h
  obtain ⟨F, x, p, l, eF, rfl, hb, hok, q⟩ := h
  obtain ⟨a, xs, rfl, hs, hr⟩ := hb
  obtain ⟨its, rv, hl, hz⟩ := I.tuple (Same.sqt eF hs)
  rw [Vals.ref1 r]
  obtain ⟨hT, hd, hal⟩ := minOk_of hok
  obtain ⟨as, h4⟩ := Dp.readsAll I _ _ its (Reps.dp 59 _ _ hd (Reps.mono eF hr)) rv
  rw [toDs_map] at h4
  have hdep : PyData.depthAll ((p :: l).map PV.toD) ≤ 59 := by rw [← toDs_map]; exact isD_depth.all_depth 59 _ hd
  refine PySem.W.min_tuple_data (x := p.toD) (xs := l.map PV.toD) (I.ok.hd hc) (isT_of hl) (by simpa using h4) hal (by rw [List.map_cons] at hdep; omega) fun i v h' tk bs hv rd hk => ?_
  have ef : (l.foldl (fun a y => if ltD y a = true then y else a) p).toD = PySem.W.minD p.toD (l.map PV.toD) := fold_toD (fun a y => PySem.W.dataLt y a) l p
  obtain ⟨z, rz, hz2⟩ := min_pick hr rv hT (fold_mem (fun a y => ltD y a) l p) (by simpa using hv) ef rd (fun p' x' u hp' hx' hu' => by
    obtain ⟨as, r1⟩ := Dp.reads I _ x' u (Rep.dp 59 _ _ (List.all_eq_true.mp hd p' hp') (hx'.mono eF)) hu'
    exact ⟨as, PyProof.Rows.Reads.keeps hk r1⟩)
  exact ⟨z, H, I.kept hk, rz, q z hz2⟩
theorem cr_maxXt (hc : X.calm = true) (hu : X.A.units + 131 < cLine) : CallR X (.builtin "max") (fun xs H Q => ∃ F x p l, Same F H ∧ xs = [x] ∧ RepB X.K F H (.tup (p :: l)) x ∧ minOk (p :: l) = true ∧ ∀ v, Rep X.K F (l.foldl (fun a y => if ltD a y = true then y else a) p) v → Q v H) := by
  intro pins s σ H vs us Q I r h
  obtain ⟨F, x, p, l, eF, rfl, hb, hok, q⟩ := h
  obtain ⟨a, xs, rfl, hs, hr⟩ := hb
  obtain ⟨its, rv, hl, hz⟩ := I.tuple (Same.sqt eF hs)
  rw [Vals.ref1 r]
  obtain ⟨hT, hd, hal⟩ := minOk_of hok
  obtain ⟨as, h4⟩ := Dp.readsAll I _ _ its (Reps.dp 59 _ _ hd (Reps.mono eF hr)) rv
  rw [toDs_map] at h4
  have hdep : PyData.depthAll ((p :: l).map PV.toD) ≤ 59 := by rw [← toDs_map]; exact isD_depth.all_depth 59 _ hd
  refine PySem.W.max_tuple_data (x := p.toD) (xs := l.map PV.toD) (I.ok.hd hc) (isT_of hl) (by simpa using h4) hal (by rw [List.map_cons] at hdep; omega) fun i v h' tk bs hv rd hk => ?_
  have ef : (l.foldl (fun a y => if ltD a y = true then y else a) p).toD = PySem.W.maxD p.toD (l.map PV.toD) := fold_toD (fun a y => PySem.W.dataLt a y) l p
  obtain ⟨z, rz, hz2⟩ := min_pick hr rv hT (fold_mem (fun a y => ltD a y) l p) (by simpa using hv) ef rd (fun p' x' u hp' hx' hu' => by
    obtain ⟨as, r1⟩ := Dp.reads I _ x' u (Rep.dp 59 _ _ (List.all_eq_true.mp hd p' hp') (hx'.mono eF)) hu'
    exact ⟨as, PyProof.Rows.Reads.keeps hk r1⟩)
  exact ⟨z, H, I.kept hk, rz, q z hz2⟩
theorem cr_minD (hc : X.calm = true) (hu : X.A.units + 131 < cLine) : CallR X (.builtin "min") (RCof X.K .minD) := by
  refine CallR.pick fun pins s σ H xs Q I h => ?_
  obtain ⟨F, ps, r, e, hb, ho, q⟩ := h
  have ho : minDP ps = some r := ho
  unfold minDP at ho
  split at ho
  · rename_i r' h1
    cases ho
    exact ⟨_, cr_minL hc, F, ps, r, e, hb, h1, q⟩
  · split at ho
    · rename_i p l _ _
      split at ho
      · rename_i hok
        cases ho
        obtain ⟨x, rfl, h2⟩ : ∃ x, xs = [x] ∧ RepB X.K F H (.lst (p :: l)) x := by
          obtain ⟨v, rr, rfl, h2, h3⟩ := hb
          exact ⟨v, by rw [show rr = [] from h3], h2⟩
        exact ⟨_, cr_minX hc hu, F, x, p, l, e, rfl, h2, hok, fun v hv => q v H (.any hv)⟩
      · cases ho
    · rename_i p l _ _
      split at ho
      · rename_i hok
        cases ho
        obtain ⟨x, rfl, h2⟩ : ∃ x, xs = [x] ∧ RepB X.K F H (.tup (p :: l)) x := by
          obtain ⟨v, rr, rfl, h2, h3⟩ := hb
          exact ⟨v, by rw [show rr = [] from h3], h2⟩
        exact ⟨_, cr_minXt hc hu, F, x, p, l, e, rfl, h2, hok, fun v hv => q v H (.any hv)⟩
      · cases ho
    · cases ho
theorem cr_maxD (hc : X.calm = true) (hu : X.A.units + 131 < cLine) : CallR X (.builtin "max") (RCof X.K .maxD) := by
  refine CallR.pick fun pins s σ H xs Q I h => ?_
  obtain ⟨F, ps, r, e, hb, ho, q⟩ := h
  have ho : maxDP ps = some r := ho
  unfold maxDP at ho
  split at ho
  · rename_i r' h1
    cases ho
    exact ⟨_, cr_maxL hc, F, ps, r, e, hb, h1, q⟩
  · split at ho
    · rename_i p l _ _
      split at ho
      · rename_i hok
        cases ho
        obtain ⟨x, rfl, h2⟩ : ∃ x, xs = [x] ∧ RepB X.K F H (.lst (p :: l)) x := by
          obtain ⟨v, rr, rfl, h2, h3⟩ := hb
          exact ⟨v, by rw [show rr = [] from h3], h2⟩
        exact ⟨_, cr_maxX hc hu, F, x, p, l, e, rfl, h2, hok, fun v hv => q v H (.any hv)⟩
      · cases ho
    · rename_i p l _ _
      split at ho
      · rename_i hok
        cases ho
        obtain ⟨x, rfl, h2⟩ : ∃ x, xs = [x] ∧ RepB X.K F H (.tup (p :: l)) x := by
          obtain ⟨v, rr, rfl, h2, h3⟩ := hb
          exact ⟨v, by rw [show rr = [] from h3], h2⟩
        exact ⟨_, cr_maxXt hc hu, F, x, p, l, e, rfl, h2, hok, fun v hv => q v H (.any hv)⟩
      · cases ho
    · cases ho
end
section
variable {C : Cb} {Φ : Nat → List LV → CR} {W : WX} {X : Cx} {a b c e : Expr} {es : List Expr} {pos p : Pos} {x : Str} {ia ib ic : Arg}
theorem f_minD (o : XC X C) (hg : Gl X "min") (hm : X.mg "min" = none) (ha : PE X a (tA1 C Φ W ia)) (he : starEach [a] X.env = (false, eval a X.env) :: starEach [] X.env := by rfl) : PE X (.Call (.Name "min" p) [a] [] pos) (tO C Φ W .minD [ia]) := o_blt (cc o.toXO (cr_minD o.calm o.un)) hg hm boot_min (as1 ha he) (by decide) (by decide) he rfl
theorem f_maxD (o : XC X C) (hg : Gl X "max") (hm : X.mg "max" = none) (ha : PE X a (tA1 C Φ W ia)) (he : starEach [a] X.env = (false, eval a X.env) :: starEach [] X.env := by rfl) : PE X (.Call (.Name "max" p) [a] [] pos) (tO C Φ W .maxD [ia]) := o_blt (cc o.toXO (cr_maxD o.calm o.un)) hg hm boot_max (as1 ha he) (by decide) (by decide) he rfl
theorem f_sortedD (o : XC X C) (hg : Gl X "sorted") (hm : X.mg "sorted" = none) (ha : PE X a (tA1 C Φ W ia)) (he : starEach [a] X.env = (false, eval a X.env) :: starEach [] X.env := by rfl) : PE X (.Call (.Name "sorted" p) [a] [] pos) (tO C Φ W .sortedD [ia]) := o_blt (cc o.toXO (cr_sortedD o.calm o.un)) hg hm boot_sorted (as1 ha he) (by decide) (by decide) he rfl
theorem q_sl00 {p2 : Pos} (o : XO X C) (ha : PE X a (tA1 C Φ W ia)) : PE X (.Subscript a (.Slice none none none p2) pos) (tO C Φ W (.slc false false) [ia]) := o_sl00 o ha
theorem q_sl10 {p2 : Pos} (o : XO X C) (ha : PE X a (tA1 C Φ W ia)) (hb : PE X b (tA1 C Φ W ib)) : PE X (.Subscript a (.Slice (some b) none none p2) pos) (tO C Φ W (.slc true false) [ia, ib]) := o_sl10 o ha hb
theorem q_sl01 {p2 : Pos} (o : XO X C) (ha : PE X a (tA1 C Φ W ia)) (hb : PE X b (tA1 C Φ W ib)) : PE X (.Subscript a (.Slice none (some b) none p2) pos) (tO C Φ W (.slc false true) [ia, ib]) := o_sl01 o ha hb
theorem q_sl11 {p2 : Pos} (o : XO X C) {ib ic : Ex} (ha : PE X a (tA1 C Φ W ia)) (hb : PE X b (tE C Φ W ib)) (hc : PE X c (tE C Φ W ic)) : PE X (.Subscript a (.Slice (some b) (some c) none p2) pos) (tE C Φ W (.sl2 ia ib ic)) := e_sl11 o ha hb hc
end
end Br
set_option maxHeartbeats 1000000
/-! BrF3: x.pop(i), x.insert(i, e). -/
namespace Br
open PySem PySem.Spec PyProof.Rows L2
section
variable {C : Cb} {Φ : Nat → List LV → CR} {W : WX} {X : Cx} {a b c e f : Expr} {es : List Expr} {pos : Pos} {x : Str} {pr : List Nat} {n : Nat}
theorem reps_erase {K : PySem.W.Frag} {F : Hp} {l : List PV} {xs : List V} (k : Nat) (r : Reps K F l xs) : Reps K F (l.eraseIdx k) (xs.eraseIdx k) := by
  rw [List.eraseIdx_eq_take_drop_succ, List.eraseIdx_eq_take_drop_succ]
  exact (r.take k).append (r.drop (k + 1))
theorem st_popA {i : Nat} {ir : Ex} {apos cpos p : Pos} (hN : X.N[i]? = some x) (hv : Vis X.env.scope x) (he : PE X e (tE C Φ W ir))
    (hbase : attributeBase (.Name x p) "pop" X.env (eval (.Name x p) X.env) = eval (.Name x p) X.env := by rfl)
    (hfew : ((backTo cpos (starEach [e] X.env)).all (fun x => !x.1) && (backToKw cpos (keywordEach [] X.env)).all (fun x => x.1.isSome)
      && decide (([e] : List Expr).length + ([] : List Keyword).length + (if ([] : List Keyword).isEmpty then 0 else 1) < 30)) = true := by rfl)
    (hline : (apos.endLine == cpos.line) = true := by rfl) (hst : starEach [e] X.env = (false, eval e X.env) :: starEach [] X.env := by rfl)
    (hd : (x == ("__debug__" : Str)) = false := by decide) (hcd : (x == ("__classdict__" : Str)) = false := by decide)
    (hs : swapsWith (.Call (.Attribute (.Name x p) "pop" apos) [e] [] cpos) none pos.line X.env = pure false := by rfl) :
    PS X (.Expr (.Call (.Attribute (.Name x p) "pop" apos) [e] [] cpos) pos) (tS C Φ W pr n (.popA i ir)) :=
  (ps_expr (pe_bm PySem.F.plainAttrs_list PySem.F.slot_list_pop PySem.F.type_list_pop mt_popAt (pe_var hN hv hd hcd) (pa_cons he pa_nil hst) hbase hfew hline hst rfl) hs).weak fun D σ H q => by
    obtain ⟨ρ, F, s, q⟩ := q
    unfold exS at q
    by_cases ho : ownL ρ i = true
    case neg => rw [if_neg ho] at q; exact False.elim q
    rw [if_pos ho] at q
    obtain ⟨l0, hl0⟩ := ownL_at ho
    obtain ⟨a, ha, ⟨xs0, hH0, _⟩, _⟩ := s.ownAt hl0
    refine ⟨.ref a, ha, .inl ⟨rfl, xs0, .inl (.inl hH0)⟩, ρ, F, s, q.so.imp fun p ρ1 F1 H1 e1 s1 k1 v r => ?_⟩
    split at k1
    · rename_i l j hl
      split at k1
      · rename_i hlim
        obtain ⟨j0, j1, j2⟩ := hlim
        unfold at' at hl
        split at hl
        · rename_i l' hl'
          cases hl
          obtain ⟨a', ha', ⟨xs, hH, rr⟩, _⟩ := s1.ownAt hl'
          rw [ha] at ha'
          cases ha'
          have rv : v = .int j := r
          subst rv
          have hlen := rr.length
          obtain ⟨k, rfl⟩ := Int.eq_ofNat_of_zero_le j0
          have hk : k < xs.length := by omega
          have hix : seqIndex? (k : Int) xs.length = some k := by
            unfold seqIndex?
            have h1 : ¬ ((k : Int) < 0) := by omega
            have h3 : (k : Int) < (xs.length : Int) := by omega
            simp [h1, h3]
          unfold LIM at j2
          exact ⟨a, xs, (k : Int), k, xs[k], rfl, rfl, hH, by omega, by omega, hix, List.getElem?_eq_getElem hk, k1 F1 σ _ (Same.refl F1) Kp.refl (s1.write hl' ha ⟨xs.eraseIdx k, upd_same, reps_erase k rr⟩)⟩
        · cases hl
      · exact False.elim k1
    · exact False.elim k1
theorem st_insA {i : Nat} {ik ir : Ex} {apos cpos p : Pos} (hN : X.N[i]? = some x) (hv : Vis X.env.scope x) (hk : PE X f (tE C Φ W ik)) (he : PE X e (tE C Φ W ir))
    (hbase : attributeBase (.Name x p) "insert" X.env (eval (.Name x p) X.env) = eval (.Name x p) X.env := by rfl)
    (hfew : ((backTo cpos (starEach [f, e] X.env)).all (fun x => !x.1) && (backToKw cpos (keywordEach [] X.env)).all (fun x => x.1.isSome)
      && decide (([f, e] : List Expr).length + ([] : List Keyword).length + (if ([] : List Keyword).isEmpty then 0 else 1) < 30)) = true := by rfl)
    (hline : (apos.endLine == cpos.line) = true := by rfl) (hst : starEach [f, e] X.env = (false, eval f X.env) :: starEach [e] X.env := by rfl)
    (hst2 : starEach [e] X.env = (false, eval e X.env) :: starEach [] X.env := by rfl) (hpl : (backTo cpos (starEach [e] X.env)).any (·.1) = false := by rfl)
    (hd : (x == ("__debug__" : Str)) = false := by decide) (hcd : (x == ("__classdict__" : Str)) = false := by decide)
    (hs : swapsWith (.Call (.Attribute (.Name x p) "insert" apos) [f, e] [] cpos) none pos.line X.env = pure false := by rfl) :
    PS X (.Expr (.Call (.Attribute (.Name x p) "insert" apos) [f, e] [] cpos) pos) (tS C Φ W pr n (.insA i ik ir)) :=
  (ps_expr (pe_bm PySem.F.plainAttrs_list PySem.F.slot_list_insert PySem.F.type_list_insert mt_insert (pe_var hN hv hd hcd) (pa_cons hk (pa_cons he pa_nil hst2) hst) hbase hfew hline hst hpl) hs).weak fun D σ H q => by
    obtain ⟨ρ, F, s, q⟩ := q
    unfold exS at q
    by_cases ho : ownL ρ i = true
    case neg => rw [if_neg ho] at q; exact False.elim q
    rw [if_pos ho] at q
    obtain ⟨l0, hl0⟩ := ownL_at ho
    obtain ⟨a, ha, ⟨xs0, hH0, _⟩, _⟩ := s.ownAt hl0
    refine ⟨.ref a, ha, .inl ⟨rfl, xs0, .inl (.inl hH0)⟩, ρ, F, s, q.so.imp fun p ρ1 F1 H1 e1 s1 k1 v r => ?_⟩
    refine ⟨ρ1, F1, s1, k1.so.imp fun q ρ2 F2 H2 e2 s2 k2 w rw' => ?_⟩
    split at k2
    · rename_i l j hl
      split at k2
      · rename_i hlim
        obtain ⟨j0, j1, j2⟩ := hlim
        unfold at' at hl
        split at hl
        · rename_i l' hl'
          cases hl
          obtain ⟨a', ha', ⟨xs, hH, rr⟩, _⟩ := s2.ownAt hl'
          rw [ha] at ha'
          cases ha'
          have rv : v = .int j := r
          subst rv
          unfold LIM at j2
          have h5 : xs.take j.toNat ++ [w] ++ xs.drop j.toNat = xs.take j.toNat ++ w :: xs.drop j.toNat := by rw [List.append_assoc]; rfl
          exact ⟨a, xs, j, w, rfl, rfl, hH, by rw [← rr.length]; exact Nat.lt_of_lt_of_le j0 (lim_line (Nat.le_refl _)), j1, by omega, k2 F2 σ _ (Same.refl F2) Kp.refl (s2.write hl' ha ⟨_, upd_same, by rw [h5]; exact (rr.take j.toNat).append (.cons rw' (rr.drop j.toNat))⟩)⟩
        · cases hl
      · exact False.elim k2
    · exact False.elim k2
/-! the same as expressions -/
theorem own_at2 {ρ : Env} {i : Nat} {l : List PV} (h : at' ρ i = some (.own (.lst l))) : ρ[i]? = some (some (.own (.lst l))) := by
  unfold at' at h
  split at h
  · rename_i l' e
    cases h
    exact e
  · cases h
theorem e_popE {i : Nat} {ir : Ex} {apos cpos p : Pos} (hN : X.N[i]? = some x) (hv : Vis X.env.scope x) (he : PE X e (tE C Φ W ir))
    (hbase : attributeBase (.Name x p) "pop" X.env (eval (.Name x p) X.env) = eval (.Name x p) X.env := by rfl)
    (hfew : ((backTo cpos (starEach [e] X.env)).all (fun x => !x.1) && (backToKw cpos (keywordEach [] X.env)).all (fun x => x.1.isSome)
      && decide (([e] : List Expr).length + ([] : List Keyword).length + (if ([] : List Keyword).isEmpty then 0 else 1) < 30)) = true := by rfl)
    (hline : (apos.endLine == cpos.line) = true := by rfl) (hst : starEach [e] X.env = (false, eval e X.env) :: starEach [] X.env := by rfl)
    (hd : (x == ("__debug__" : Str)) = false := by decide) (hcd : (x == ("__classdict__" : Str)) = false := by decide) :
    PE X (.Call (.Attribute (.Name x p) "pop" apos) [e] [] cpos) (tE C Φ W (.popE i ir)) :=
  (pe_bm PySem.F.plainAttrs_list PySem.F.slot_list_pop PySem.F.type_list_pop mt_popAt (pe_var hN hv hd hcd) (pa_cons he pa_nil hst) hbase hfew hline hst rfl).weak fun σ H Q q => by
    obtain ⟨ρ, F, s, q⟩ := q
    unfold evE at q
    by_cases ho : ownL ρ i = true
    case neg => rw [if_neg ho] at q; exact False.elim q
    rw [if_pos ho] at q
    obtain ⟨l0, hl0⟩ := ownL_at ho
    obtain ⟨a, ha, ⟨xs0, hH0, _⟩, _⟩ := s.ownAt hl0
    refine ⟨.ref a, ha, .inl ⟨rfl, xs0, .inl (.inl hH0)⟩, ρ, F, s, q.bind.imp fun p ρ1 F1 H1 e1 s1 k1 v r => ?_⟩
    generalize hat : at' ρ1 i = l1 at k1
    unfold popP at k1
    split at k1
    · rename_i l j
      have hl' := own_at2 hat
      obtain ⟨a', ha', ⟨xs, hH, rr⟩, _⟩ := s1.ownAt hl'
      rw [ha] at ha'
      cases ha'
      split at k1
      · rename_i hlim
        obtain ⟨j0, j2⟩ := hlim
        have rv : v = .int j := r
        subst rv
        obtain ⟨k, rfl⟩ := Int.eq_ofNat_of_zero_le j0
        cases hx : l[((k : Nat) : Int).toNat]? with
        | none => rw [hx] at k1; exact False.elim k1
        | some y =>
          rw [hx] at k1
          rw [Int.toNat_natCast] at hx
          obtain ⟨z, hz, rz⟩ := rr.get hx
          obtain ⟨hk, _⟩ := List.getElem?_eq_some_iff.mp hz
          have hix : seqIndex? (k : Int) xs.length = some k := by
            unfold seqIndex?
            have h1 : ¬ ((k : Int) < 0) := by omega
            have h3 : (k : Int) < (xs.length : Int) := by omega
            simp [h1, h3]
          unfold LIM at j2
          exact ⟨a, xs, (k : Int), k, z, rfl, rfl, hH, by omega, by omega, hix, hz, k1 F1 _ (Same.refl F1) (s1.write hl' ha ⟨xs.eraseIdx k, upd_same, reps_erase k rr⟩) _ rz⟩
      · exact False.elim k1
    · exact False.elim k1
theorem e_popL {i : Nat} {apos cpos p : Pos} (hN : X.N[i]? = some x) (hv : Vis X.env.scope x)
    (hbase : attributeBase (.Name x p) "pop" X.env (eval (.Name x p) X.env) = eval (.Name x p) X.env := by rfl) (hline : (apos.endLine == cpos.line) = true := by rfl)
    (hd : (x == ("__debug__" : Str)) = false := by decide) (hcd : (x == ("__classdict__" : Str)) = false := by decide) :
    PE X (.Call (.Attribute (.Name x p) "pop" apos) [] [] cpos) (tE C Φ W (.popL i)) :=
  (pe_bm0 PySem.F.plainAttrs_list PySem.F.slot_list_pop PySem.F.type_list_pop mt_pop (pe_var hN hv hd hcd) hbase hline).weak fun σ H Q q => by
    obtain ⟨ρ, F, s, q⟩ := q
    unfold evE at q
    generalize hat : at' ρ i = l1 at q
    unfold poplP at q
    split at q
    · rename_i l
      have hl' := own_at2 hat
      obtain ⟨a, ha, ⟨xs, hH, rr⟩, _⟩ := s.ownAt hl'
      cases hx : l[l.length - 1]? with
      | none => rw [hx] at q; exact False.elim q
      | some y =>
        rw [hx] at q
        obtain ⟨z, hz, rz⟩ := rr.get hx
        rw [rr.length] at hz
        have rd : Reps C.K F l.dropLast xs.dropLast := by
          rw [List.dropLast_eq_take, List.dropLast_eq_take, ← rr.length]
          exact rr.take _
        exact ⟨.ref a, ha, .inl ⟨rfl, xs, .inl (.inl hH)⟩, a, xs, z, rfl, rfl, hH, hz, q F _ (Same.refl F) (s.write hl' ha ⟨xs.dropLast, upd_same, rd⟩) _ rz⟩
    · exact False.elim q
/-! {x: y} -/
theorem key_kV {K : PySem.W.Frag} {F : Hp} {p : PV} {k : Key} {v : V} (h : keyP p = some k) (r : Rep K F p v) : v = kV k := by
  cases p with
  | int i => cases h; exact r
  | str i => cases h; exact r
  | _ => cases h
theorem at_fro {ρ : Env} {i : Nat} {p : PV} (h : at' ρ i = some (.fro p)) : ρ[i]? = some (some (.fro p)) := by
  unfold at' at h
  split at h
  · rename_i l' e
    cases h
    exact e
  · cases h
theorem l_dispV {i j : Nat} {y : Str} {p1 p2 : Pos} (hN : X.N[i]? = some x) (hv : Vis X.env.scope x) (hN2 : X.N[j]? = some y) (hv2 : Vis X.env.scope y)
    (hd : (x == ("__debug__" : Str)) = false := by decide) (hcd : (x == ("__classdict__" : Str)) = false := by decide) (hd2 : (y == ("__debug__" : Str)) = false := by decide) (hcd2 : (y == ("__classdict__" : Str)) = false := by decide) :
    PE X (.Dict [some (.Name x p1)] [.Name y p2] pos) (tL' C Φ W (.dispV i j)) :=
  (pe_disp (pps_cons (pe_var hN hv hd hcd) (pe_var hN2 hv2 hd2 hcd2) pps_nil) rfl rfl (by simp) (by simp)).weak fun σ H Q q => by
    obtain ⟨ρ, F, s, q⟩ := q
    have q : PostL C W σ F ((ER.of (dispP ρ i j) ρ).bind fun p ρ1 => ER.ok (LV.own p) ρ1) _ := q
    cases h1 : at' ρ i with
    | none => unfold dispP at q; rw [h1] at q; exact False.elim q
    | some l1 =>
      cases h2 : at' ρ j with
      | none => unfold dispP at q; rw [h1, h2] at q; cases l1 <;> exact False.elim q
      | some l2 =>
        cases l1 with
        | fro k =>
          cases l2 with
          | fro w =>
            unfold dispP at q
            rw [h1, h2] at q
            dsimp only at q
            cases hk : keyP k with
            | none => rw [hk] at q; exact False.elim q
            | some key =>
              rw [hk] at q
              obtain ⟨v, hv1, rv⟩ := s.fro (at_fro h1)
              obtain ⟨z, hz1, rz⟩ := s.fro (at_fro h2)
              have ev := key_kV hk rv
              subst ev
              intro a ha
              refine ⟨_, hv1, z, hz1, upd_same, [(key, z)], rfl, by simp, ?_⟩
              rw [show mergeK [] [(key, z)] = [(key, z)] from rfl, upd_upd]
              exact q F _ _ (Same.refl F) (s.pushNew ha ⟨[z], upd_same, rfl, by simp, .cons rz .nil⟩)
          | _ => unfold dispP at q; rw [h1, h2] at q; exact False.elim q
        | _ => unfold dispP at q; rw [h1, h2] at q; exact False.elim q
theorem e_dispV {i j : Nat} (h : PE X e (tL' C Φ W (.dispV i j))) : PE X e (tE C Φ W (.dispV i j)) := e_ofL h fun ρ => by
  rw [evE]
  show ER.of (dispP ρ i j) ρ = froE ((ER.of (dispP ρ i j) ρ).bind fun p ρ1 => ER.ok (LV.own p) ρ1)
  cases dispP ρ i j <;> rfl
end
end Br
set_option maxHeartbeats 1000000
/-! BrG1: an own value in front of a state is hidden while others are evaluated (groundwork for own temporaries as arguments). -/
namespace Br
open PySem PySem.Spec PyProof.Rows L2
section
variable {C : Cb} {F H : Hp} {ρ : Env} {σ : L2.St} {l : LV} {v : V}
theorem SR.hide (s : SR C F (some l :: ρ) (some v :: σ) H) : ∃ A : List Addr, SR ⟨C.K, H, F, A⟩ F ρ σ H ∧ ∀ F' ρ' H', SR ⟨C.K, H, F, A⟩ F' ρ' σ H' → SR C F' (some l :: ρ') (some v :: σ) H' := by
  obtain ⟨fp, h1, h2⟩ := s.own
  obtain ⟨A, hA⟩ : ∃ A : List Addr, ∀ a, a ∈ A ↔ ∃ i m, ρ[i]? = some (some m) ∧ a ∈ fp (i + 1) := by
    refine ⟨(List.range ρ.length).flatMap fun i => match ρ[i]? with
      | some (some _) => fp (i + 1)
      | _ => [], fun a => ?_⟩
    rw [List.mem_flatMap]
    constructor
    · rintro ⟨i, _, ha⟩
      split at ha
      · rename_i m hm
        exact ⟨i, m, hm, ha⟩
      · exact absurd ha (by simp)
    · rintro ⟨i, m, hm, ha⟩
      obtain ⟨hi, _⟩ := List.getElem?_eq_some_iff.mp hm
      refine ⟨i, List.mem_range.mpr hi, ?_⟩
      rw [hm]
      exact ha
  obtain ⟨v0, hv0, r0, nd0, q0⟩ := h1 0 l rfl
  have ev : v0 = v := by
    simp only [List.getElem?_cons_zero, Option.some.injEq] at hv0
    exact hv0.symm
  subst ev
  have oA : ∀ a ∈ A, C.O a := fun a ha => by
    obtain ⟨i, m, hm, hf⟩ := (hA a).mp ha
    obtain ⟨_, _, _, _, q⟩ := h1 (i + 1) m (by simpa using hm)
    exact (q a hf).2
  have nt : ∀ a ∈ fp 0, a ∉ A := fun a ha hb => by
    obtain ⟨i, m, hm, hf⟩ := (hA a).mp hb
    exact h2 0 (i + 1) l m (by omega) rfl (by simpa using hm) a ha hf
  refine ⟨A, ⟨s.le, Same.refl F, fun a o h _ => h, fun a n => .inl n, by simpa using s.len, fun i => fp (i + 1), fun i m hi => ?_, fun i j m k hij hi hj => h2 (i + 1) (j + 1) m k (by omega) (by simpa using hi) (by simpa using hj)⟩, fun F' ρ' H' s' => ?_⟩
  · obtain ⟨w, hw, r, nd, q⟩ := h1 (i + 1) m (by simpa using hi)
    exact ⟨w, by simpa using hw, r, nd, fun a ha => ⟨(q a ha).1, .inl ((hA a).mpr ⟨i, m, hi, ha⟩)⟩⟩
  · obtain ⟨gp, g1, g2⟩ := s'.own
    have e : Same F F' := s'.f0
    have kt : ∀ a ∈ fp 0, H' a = H a := fun a ha => by
      obtain ⟨o, ho⟩ := r0.there a ha
      rw [ho]
      exact s'.keep a o ho (nt a ha)
    have oC : ∀ a, Cb.O ⟨C.K, H, F, A⟩ a → C.O a := fun a h => by
      rcases h with h | h
      · exact oA a h
      · exact s.fresh h
    have no : ∀ a ∈ fp 0, ¬ Cb.O ⟨C.K, H, F, A⟩ a := fun a ha h => by
      rcases h with h | h
      · exact nt a ha h
      · obtain ⟨o, ho⟩ := r0.there a ha
        have h : H a = none := h
        rw [ho] at h
        cases h
    refine ⟨s'.le, s.f0.trans e, fun a o h0 hn => ?_, fun a n => ?_, by simp [s'.len], fun i => match i with | 0 => fp 0 | i + 1 => gp i, fun j m hj => ?_, fun j k m m' hjk hj hk => ?_⟩
    · refine s'.keep a o (s.keep a o h0 hn) fun ha => ?_
      rcases oA a ha with q | q
      · exact hn q
      · rw [h0] at q; cases q
    · rcases s'.fo a n with q | q
      · exact s.fo a q
      · exact .inr (oC a q)
    · cases j with
      | zero =>
        simp only [List.getElem?_cons_zero, Option.some.injEq] at hj
        subst hj
        refine ⟨v0, rfl, r0.frame e kt, nd0, fun a ha => ⟨?_, (q0 a ha).2⟩⟩
        cases z : F' a with
        | none => rfl
        | some o =>
          rcases s'.fo a (by rw [z]; exact fun w => nomatch w) with q | q
          · exact absurd (q0 a ha).1 q
          · exact absurd q (no a ha)
      | succ j =>
        obtain ⟨w, hw, r, nd, q⟩ := g1 j m (by simpa using hj)
        exact ⟨w, by simpa using hw, r, nd, fun a ha => ⟨(q a ha).1, oC a (q a ha).2⟩⟩
    · cases j with
      | zero =>
        cases k with
        | zero => exact absurd rfl hjk
        | succ k =>
          intro a ha hb
          obtain ⟨_, _, _, _, q⟩ := g1 k m' (by simpa using hk)
          exact no a ha (q a hb).2
      | succ j =>
        cases k with
        | zero =>
          intro a ha hb
          obtain ⟨_, _, _, _, q⟩ := g1 j m (by simpa using hj)
          exact no a hb (q a ha).2
        | succ k => exact g2 j k m m' (by omega) (by simpa using hj) (by simpa using hk)
/-- a slot behind the first one is dropped -/
theorem SR.drop2 {x : Option LV} {y : Option LV} {a b : Option V} (s : SR C F (x :: y :: ρ) (a :: b :: σ) H) : SR C F (x :: ρ) (a :: σ) H := by
  obtain ⟨fp, h1, h2⟩ := s.own
  refine ⟨s.le, s.f0, s.keep, s.fo, by have := s.len; simp at this ⊢; exact this, fun i => match i with | 0 => fp 0 | i + 1 => fp (i + 2), fun j m hj => ?_, fun j k m m' hjk hj hk => ?_⟩
  · cases j with
    | zero => exact h1 0 m (by simpa using hj)
    | succ j =>
      obtain ⟨w, hw, r⟩ := h1 (j + 2) m (by simpa using hj)
      exact ⟨w, by simpa using hw, r⟩
  · cases j with
    | zero =>
      cases k with
      | zero => exact absurd rfl hjk
      | succ k => exact h2 0 (k + 2) m m' (by omega) (by simpa using hj) (by simpa using hk)
    | succ j =>
      cases k with
      | zero => exact h2 (j + 2) 0 m m' (by omega) (by simpa using hj) (by simpa using hk)
      | succ k => exact h2 (j + 2) (k + 2) m m' (by omega) (by simpa using hj) (by simpa using hk)
end
end Br
set_option maxHeartbeats 2000000
/-! BrG2: walks over a dict of our own, locked as long as it is walked. -/
namespace Br
open PySem PySem.Spec PyProof.Rows L2
section
variable {C : Cb} {F H : Hp} {ρ : Env} {σ : L2.St}
/-- a thing of our own in front is locked and hidden; what runs behind it leaves it as it was -/
theorem SR.lockU {p : PV} {a : Addr} {u : HO} (s : SR C F (some (.own p) :: ρ) (some (.ref a) :: σ) H) (hu : H a = some u) : ∃ A : List Addr, a ∉ A ∧ ∀ od, SR ⟨C.K, upd H a (.frz od u), F, A⟩ F ρ σ (upd H a (.frz od u)) ∧
    ∀ F' ρ' σ' H', SR ⟨C.K, upd H a (.frz od u), F, A⟩ F' ρ' σ' H' → H' a = some (.frz od u) ∧ SR C F' (some (.own p) :: ρ') (some (.ref a) :: σ') (upd H' a u) := by
  obtain ⟨fp, h1, h2⟩ := s.own
  obtain ⟨A, hA⟩ : ∃ A : List Addr, ∀ b, b ∈ A ↔ ∃ i m, ρ[i]? = some (some m) ∧ b ∈ fp (i + 1) := by
    refine ⟨(List.range ρ.length).flatMap fun i => match ρ[i]? with
      | some (some _) => fp (i + 1)
      | _ => [], fun b => ?_⟩
    rw [List.mem_flatMap]
    constructor
    · rintro ⟨i, _, hb⟩
      split at hb
      · rename_i m hm
        exact ⟨i, m, hm, hb⟩
      · exact absurd hb (by simp)
    · rintro ⟨i, m, hm, hb⟩
      obtain ⟨hi, _⟩ := List.getElem?_eq_some_iff.mp hm
      refine ⟨i, List.mem_range.mpr hi, ?_⟩
      rw [hm]
      exact hb
  obtain ⟨v0, hv0, ⟨a', ea, oa, ef⟩, nd0, q0⟩ := h1 0 _ rfl
  have ev : v0 = .ref a := by
    simp only [List.getElem?_cons_zero, Option.some.injEq] at hv0
    exact hv0.symm
  rw [ev] at ea
  cases ea
  obtain ⟨fa, oC⟩ := q0 a (by rw [ef]; simp)
  have off : ∀ i m, ρ[i]? = some (some m) → a ∉ fp (i + 1) := fun i m hm hb => h2 0 (i + 1) _ m (by omega) rfl (by simpa using hm) a (by rw [ef]; simp) hb
  have nA : a ∉ A := fun hb => by
    obtain ⟨i, m, hm, hf⟩ := (hA a).mp hb
    exact off i m hm hf
  have oA : ∀ b ∈ A, C.O b := fun b hb => by
    obtain ⟨i, m, hm, hf⟩ := (hA b).mp hb
    obtain ⟨_, _, _, _, q⟩ := h1 (i + 1) m (by simpa using hm)
    exact (q b hf).2
  refine ⟨A, nA, fun od => ⟨⟨fun b o e => ?_, Same.refl F, fun b o h _ => h, fun b n => .inl n, by have := s.len; simpa using this, fun i => fp (i + 1), fun i m hi => ?_, fun i j m k hij hi hj => h2 (i + 1) (j + 1) m k (by omega) (by simpa using hi) (by simpa using hj)⟩, fun F' ρ' σ' H' s' => ?_⟩⟩
  · rw [upd_ne (ne_of_none e fa)]
    exact s.le b o e
  · obtain ⟨w, hw, r, nd, q⟩ := h1 (i + 1) m (by simpa using hi)
    refine ⟨w, by simpa using hw, r.frame (Same.refl F) fun b hb => ?_, nd, fun b hb => ⟨(q b hb).1, .inl ((hA b).mpr ⟨i, m, hi, hb⟩)⟩⟩
    exact upd_ne fun z => off i m hi (z ▸ hb)
  · obtain ⟨gp, g1, g2⟩ := s'.own
    have e : Same F F' := s'.f0
    have hl : H' a = some (.frz od u) := s'.keep a _ upd_same nA
    have n1 : ∀ b, upd H a (.frz od u) b = none → H b = none ∧ b ≠ a := fun b hb => by
      by_cases z : b = a
      · rw [z, upd_same] at hb; cases hb
      · rw [upd_ne z] at hb; exact ⟨hb, z⟩
    have oC' : ∀ b, Cb.O ⟨C.K, upd H a (.frz od u), F, A⟩ b → C.O b := fun b h => by
      rcases h with h | h
      · exact oA b h
      · exact s.fresh (n1 b h).1
    have noa : ¬ Cb.O ⟨C.K, upd H a (.frz od u), F, A⟩ a := fun h => by
      rcases h with h | h
      · exact nA h
      · exact (n1 a h).2 rfl
    have fa' : F' a = none := by
      cases z : F' a with
      | none => rfl
      | some o =>
        rcases s'.fo a (by rw [z]; exact fun w => nomatch w) with q | q
        · exact absurd fa q
        · exact absurd q noa
    refine ⟨hl, fun b o z => ?_, s.f0.trans e, fun b o h0 hn => ?_, fun b n => ?_, by simp [s'.len], fun i => match i with | 0 => [a] | i + 1 => gp i, fun j m hj => ?_, fun j k m m' hjk hj hk => ?_⟩
    · rw [upd_ne (ne_of_none z fa')]
      exact s'.le b o z
    · have hb : b ≠ a := fun z => by
        rw [z] at h0 hn
        rcases oC with q | q
        · exact hn q
        · rw [q] at h0; cases h0
      rw [upd_ne hb]
      have h3 := s.keep b o h0 hn
      refine s'.keep b o ?_ fun hbA => ?_
      · show upd H a _ b = _
        rw [upd_ne hb]; exact h3
      · rcases oA b hbA with q | q
        · exact hn q
        · rw [h0] at q; cases q
    · rcases s'.fo b n with q | q
      · exact s.fo b q
      · exact .inr (oC' b q)
    · cases j with
      | zero =>
        simp only [List.getElem?_cons_zero, Option.some.injEq] at hj
        subst hj
        refine ⟨.ref a, rfl, ⟨a, rfl, oa.frame e ?_, rfl⟩, by simp, fun b hb => ?_⟩
        · rw [upd_same, hu]
        · obtain rfl : b = a := by simpa using hb
          exact ⟨fa', oC⟩
      | succ j =>
        obtain ⟨w, hw, r, nd, q⟩ := g1 j m (by simpa using hj)
        refine ⟨w, by simpa using hw, r.frame (Same.refl _) fun b hb => ?_, nd, fun b hb => ⟨(q b hb).1, oC' b (q b hb).2⟩⟩
        exact upd_ne fun z => noa (z ▸ (q b hb).2)
    · cases j with
      | zero =>
        cases k with
        | zero => exact absurd rfl hjk
        | succ k =>
          intro b hb hb2
          obtain rfl : b = a := by simpa using hb
          obtain ⟨_, _, _, _, q⟩ := g1 k m' (by simpa using hk)
          exact noa (q _ hb2).2
      | succ j =>
        cases k with
        | zero =>
          intro b hb hb2
          obtain rfl : b = a := by simpa using hb2
          obtain ⟨_, _, _, _, q⟩ := g1 j m (by simpa using hj)
          exact noa (q _ hb).2
        | succ k => exact g2 j k m m' (by omega) (by simpa using hj) (by simpa using hk)
end

/-- J yields xs wherever the state stands -/
def ItemsC (C : Cb) (F : Hp) (J : It) (xs : List PV) : Prop := ∀ i F' ρ σ H, Same F F' → SR C F' ρ σ H → (∀ p, xs[i]? = some p → J.go i H) ∧ (xs.length ≤ i → J.stop i H) ∧ ∀ x H' p, xs[i]? = some p → J.yld i H x H' →
  (H' = H ∧ Rep C.K F' p x) ∨ ∃ a ys l, H a = none ∧ x = .ref a ∧ H' = upd H a (.tup ys) ∧ p = .tup l ∧ Reps C.K F' l ys
section
variable {C : Cb} {Φ : Nat → List LV → CR} {W : WX} {pr : List Nat} {n : Nat}
/-- a loop's turns -/
theorem for_core {t : Tg} {ib : List St} {D : Ends} {xs : List PV} {ρ : Env} {F H : Hp} {σ : L2.St} {J : It} (hd : ∀ i ∈ t.ix, i ∉ pr) (s : SR C F ρ σ H) (hJ : ItemsC C F J xs) (k : SPost C W pr D σ F (forL (bindS (exSs Φ n ib) t) xs ρ)) :
    ∃ Wv : Nat → Nat → L2.St → Hp → Prop, (∃ m, Wv 0 m σ H) ∧ ∀ i m σ H, Wv i m σ H → (J.stop i H ∧ D.nx σ H) ∨ (J.go i H ∧ ∃ Nx : L2.St → Hp → Prop, (∀ σ' H', Nx σ' H' → ∃ m', m' < m ∧ Wv (i + 1) m' σ' H') ∧
      ∀ x H', J.yld i H x H' → tG C t x σ H' fun σ2 H2 => tSs C Φ W pr n ib { D with nx := Nx, ct := Nx, bk := D.nx } σ2 H2) := by
  generalize hf : bindS (exSs Φ n ib) t = f at k
  let Inv' : Nat → L2.St → Hp → Prop := fun i σ' H' => i ≤ xs.length ∧ Kp pr σ σ' ∧ ∃ ρ' F', Same F F' ∧ SR C F' ρ' σ' H' ∧ SPost C W pr D σ' F' (forL f (xs.drop i) ρ')
  refine ⟨fun i m σ' H' => m = xs.length - i ∧ Inv' i σ' H', ⟨xs.length, by simp, Nat.zero_le _, Kp.refl, ρ, F, Same.refl F, s, by rw [List.drop_zero]; exact k⟩, ?_⟩
  rintro i m σ2 H2 ⟨rfl, hle, kp2, ρ2, F2, e2, s2, k2⟩
  obtain ⟨J1, J2, J3⟩ := hJ i F2 ρ2 σ2 H2 e2 s2
  by_cases hlt : i < xs.length
  · obtain ⟨p, hp, hdr⟩ := drop_cons hlt
    rw [hdr] at k2
    refine .inr ⟨J1 p hp, Inv' (i + 1), fun σ' H' h => ⟨xs.length - (i + 1), by omega, rfl, h⟩, fun x H3 hy => ?_⟩
    obtain ⟨F3, e3, s3, r3⟩ := s2.item (J3 x H3 p hp hy)
    unfold forL at k2
    cases hbd : t.bind p ρ2 with
    | none =>
      have e0 : f p ρ2 = .st := by rw [← hf]; unfold bindS; rw [hbd]
      rw [e0] at k2
      exact False.elim k2
    | some ρ3 =>
      have e0 : f p ρ2 = exSs Φ n ib ρ3 := by rw [← hf]; unfold bindS; rw [hbd]
      rw [e0] at k2
      refine ⟨ρ2, F3, p, ρ3, s3, r3, hbd, fun σ4 H4 o4 s4 => ⟨ρ3, F3, s4, ?_⟩⟩
      have kp4 : Kp pr σ2 σ4 := Kp.only o4 hd
      cases hB : exSs Φ n ib ρ3 with
      | nx ρ5 =>
        rw [hB] at k2
        exact fun F' σ' H' e' k' s' => ⟨hlt, (kp2.trans kp4).trans k', ρ5, F', (e2.trans e3).trans e', s', SPost.mono k2 (e3.trans e') (kp4.trans k')⟩
      | ct ρ5 =>
        rw [hB] at k2
        exact fun F' σ' H' e' k' s' => ⟨hlt, (kp2.trans kp4).trans k', ρ5, F', (e2.trans e3).trans e', s', SPost.mono k2 (e3.trans e') (kp4.trans k')⟩
      | bk ρ5 =>
        rw [hB] at k2
        exact fun F' σ' H' e' k' s' => k2 F' σ' H' (e3.trans e') (kp4.trans k') s'
      | rt l ρ5 =>
        rw [hB] at k2
        exact fun F' σ' H' v e' k' s' => k2 F' σ' H' v (e3.trans e') (kp4.trans k') s'
      | ex c ρ5 =>
        rw [hB] at k2
        exact fun F' σ' H' e' k' s' => k2 F' σ' H' (e3.trans e') (kp4.trans k') s'
      | st => rw [hB] at k2; exact k2
  · have e : i = xs.length := by omega
    subst e
    rw [List.drop_eq_nil_of_le (Nat.le_refl _)] at k2
    exact .inl ⟨J2 (Nat.le_refl _), k2 F2 σ2 H2 (Same.refl F2) Kp.refl s2⟩
end
theorem key_rep {K : PySem.W.Frag} {F : Hp} (k : Key) : Rep K F (keyPV k) (kV k) := by cases k <;> rfl
theorem keys_items {C : Cb} {F H : Hp} {d : Addr} {od : Obj} {ks : List Key} {xs : List V} {A : List Addr} (hd : H d = some (.frz od (.dK (ks.zip xs)))) (nA : d ∉ A) (hl : ks.length = xs.length) : ItemsC ⟨C.K, H, F, A⟩ F (Itk d od (ks.zip xs)) (keysP ks) := fun i F' ρ σ H1 e s => by
  have h := s.keep d _ hd nA
  have hlen : (ks.zip xs).length = ks.length := by rw [List.length_zip, ← hl, Nat.min_self]
  refine ⟨fun p hp => ⟨h, ?_⟩, fun hi => ⟨h, ?_⟩, fun x H' p hp y => .inl ?_⟩
  · have := (List.getElem?_eq_some_iff.mp hp).1
    unfold keysP at this
    rw [List.length_map] at this
    omega
  · unfold keysP at hi
    rw [List.length_map] at hi
    omega
  · obtain ⟨e1, k, v, hk, rfl⟩ := y
    unfold keysP at hp
    rw [List.getElem?_map] at hp
    have hk2 : ks[i]? = some k := by
      rw [List.getElem?_zip_eq_some] at hk
      exact hk.1
    rw [hk2] at hp
    cases hp
    exact ⟨e1, key_rep k⟩
theorem itemsP_get : ∀ {ks : List Key} {vs : List PV} {i : Nat} {p : PV}, (itemsP ks vs)[i]? = some p → ∃ k v, ks[i]? = some k ∧ vs[i]? = some v ∧ p = .tup [keyPV k, v]
  | [], vs, i, p, h => by simp [itemsP] at h
  | _ :: _, [], i, p, h => by simp [itemsP] at h
  | k :: ks, v :: vs, 0, p, h => by simp [itemsP] at h; exact ⟨k, v, rfl, rfl, h.symm⟩
  | k :: ks, v :: vs, i + 1, p, h => by
    obtain ⟨a, b, h1, h2, h3⟩ := itemsP_get (ks := ks) (vs := vs) (i := i) (p := p) (by simpa [itemsP] using h)
    exact ⟨a, b, by simpa using h1, by simpa using h2, h3⟩
theorem itemsP_len : ∀ (ks : List Key) (vs : List PV), (itemsP ks vs).length = min ks.length vs.length
  | [], vs => by simp [itemsP]
  | _ :: _, [] => by simp [itemsP]
  | k :: ks, v :: vs => by simp [itemsP, itemsP_len ks vs]
theorem pair_items {C : Cb} {F H : Hp} {d : Addr} {od : Obj} {ks : List Key} {vs : List PV} {xs : List V} {A : List Addr} (hd : H d = some (.frz od (.dK (ks.zip xs)))) (nA : d ∉ A) (hl : ks.length = xs.length) (rr : Reps C.K F vs xs) : ItemsC ⟨C.K, H, F, A⟩ F (Iti d od (ks.zip xs)) (itemsP ks vs) := fun i F' ρ σ H1 e s => by
  have h := s.keep d _ hd nA
  have hlen : (ks.zip xs).length = ks.length := by rw [List.length_zip, ← hl, Nat.min_self]
  have hvl := rr.length
  refine ⟨fun p hp => ⟨h, ?_⟩, fun hi => ⟨h, ?_⟩, fun x H' p hp y => .inr ?_⟩
  · have := (List.getElem?_eq_some_iff.mp hp).1
    rw [itemsP_len] at this
    omega
  · rw [itemsP_len] at hi
    omega
  · obtain ⟨T, k, v, hk, rfl, hT, rfl⟩ := y
    obtain ⟨k', p', h1, h2, rfl⟩ := itemsP_get hp
    rw [List.getElem?_zip_eq_some] at hk
    rw [h1] at hk
    cases hk.1
    obtain ⟨x', g1, g2⟩ := rr.at h2
    rw [g1] at hk
    cases hk.2
    exact ⟨T, _, _, hT, rfl, rfl, rfl, .cons (key_rep _) (.cons (g2.mono e) .nil)⟩

/-! ### the statements -/
def bSs (K : PySem.W.Frag) (Φ : Nat → List LV → CR) (W : WX) (pr : List Nat) (n : Nat) (b : List St) : TS := fun D σ H => ∃ C : Cb, C.K = K ∧ tSs C Φ W pr n b D σ H
theorem bSs.to {K : PySem.W.Frag} {Φ : Nat → List LV → CR} {W : WX} {pr : List Nat} {n : Nat} {b : List St} {X : Cx} {sb : List Stmt} (h : ∀ C : Cb, C.K = K → PSs X sb (tSs C Φ W pr n b)) : PSs X sb (bSs K Φ W pr n b) :=
  ⟨fun pins s σ H D I q => by obtain ⟨C, hC, q⟩ := q; exact (h C hC).run pins s σ H D I q⟩
/-! ### frozen for the time of the walk -/
section
variable {K : PySem.W.Frag} {F F' : Hp} {a : Addr} {od : Obj} {kv : List (Key × V)}
/-- without what lies at a -/
def less (F : Hp) (a : Addr) : Hp := fun b => if b = a then none else F b
theorem less_ne {b : Addr} (h : b ≠ a) : less F a b = F b := if_neg h
theorem less_a : less F a a = none := if_pos rfl
theorem less_of {b : Addr} {o : HO} (h : less F a b = some o) : b ≠ a ∧ F b = some o := by
  unfold less at h
  split at h
  · cases h
  · rename_i n; exact ⟨n, h⟩
theorem less_get {b : Addr} {o : HO} (fa : F a = some (.frz od (.dK kv))) (h : F b = some o) (n : o ≠ .frz od (.dK kv)) : less F a b = some o := by
  rw [less_ne]
  · exact h
  · intro z
    subst z
    rw [fa] at h
    cases h
    exact n rfl
mutual
theorem Rep.thin (fa : F a = some (.frz od (.dK kv))) : ∀ {p : PV} {v : V}, p.noD = true → Rep K F p v → Rep K (less F a) p v
  | .non, _, _, h => h
  | .bl _, _, _, h => h
  | .int _, _, _, h => h
  | .str _, _, _, h => h
  | .ty _, _, _, h => h
  | .exc _, _, _, h => by
    obtain ⟨b, oe, vs, h1, h2, h3⟩ := h
    exact ⟨b, oe, vs, h1, less_get fa h2 (fun z => nomatch z), h3⟩
  | .tup l, _, hn, h => by
    obtain ⟨b, xs, h1, h2, h3⟩ := h
    refine ⟨b, xs, h1, ?_, Reps.thin fa (by rw [PV.noD] at hn; exact hn) h3⟩
    rcases h2 with (h | ⟨o, h⟩) | h
    · exact .inl (.inl (less_get fa h (fun z => nomatch z)))
    · exact .inl (.inr ⟨o, less_get fa h (fun z => by cases z)⟩)
    · exact .inr h
  | .xt l, _, hn, h => by
    obtain ⟨b, xs, o, h1, h2, h3, h4⟩ := h
    exact ⟨b, xs, o, h1, less_get fa h2 (fun z => by cases z), h3, Reps.thin fa (by rw [PV.noD] at hn; exact hn) h4⟩
  | .lst l, _, hn, h => by
    obtain ⟨b, xs, h1, h2, h3⟩ := h
    refine ⟨b, xs, h1, ?_, Reps.thin fa (by rw [PV.noD] at hn; exact hn) h3⟩
    rcases h2 with (h | ⟨o, h⟩) | h
    · exact .inl (.inl (less_get fa h (fun z => nomatch z)))
    · exact .inl (.inr ⟨o, less_get fa h (fun z => by cases z)⟩)
    · exact .inr h
  | .dK ks l, _, hn, h => by rw [PV.noD] at hn; cases hn
  | .dT ks l, _, hn, h => by
    obtain ⟨b, xs, h1, h2, h3, h4, h5⟩ := h
    exact ⟨b, xs, h1, less_get fa h2 (fun z => nomatch z), h3, h4, Reps.thin fa (by rw [PV.noD] at hn; exact hn) h5⟩
theorem Reps.thin (fa : F a = some (.frz od (.dK kv))) : ∀ {l : List PV} {xs : List V}, PV.noDs l = true → Reps K F l xs → Reps K (less F a) l xs
  | [], _, _, h => h
  | p :: l, _, hn, h => by
    rw [PV.noDs, Bool.and_eq_true] at hn
    obtain ⟨x, r, h1, h2, h3⟩ := h
    exact ⟨x, r, h1, Rep.thin fa hn.1 h2, Reps.thin fa hn.2 h3⟩
end
theorem own_thin {H : Hp} {b : Addr} (fa : F a = some (.frz od (.dK kv))) {p q : PV} (h : thinL (.own p) = some (.own q)) (o : OwnAt K F H b p) : p = q ∧ OwnAt K (less F a) H b p := by
  cases p with
  | lst l =>
    simp only [thinL] at h
    split at h
    · rename_i hn
      cases h
      obtain ⟨xs, h1, h2⟩ := o
      exact ⟨rfl, xs, h1, Reps.thin fa hn h2⟩
    · cases h
  | dK ks l =>
    simp only [thinL] at h
    split at h
    · rename_i hn
      cases h
      obtain ⟨xs, h1, h2, h3, h4⟩ := o
      exact ⟨rfl, xs, h1, h2, h3, Reps.thin fa hn h4⟩
    · cases h
  | dT ks l =>
    simp only [thinL] at h
    split at h
    · rename_i hn
      cases h
      obtain ⟨xs, h1, h2, h3, h4⟩ := o
      exact ⟨rfl, xs, h1, h2, h3, Reps.thin fa hn h4⟩
    · cases h
  | _ => exact False.elim o
theorem RepL.thin {H : Hp} (fa : F a = some (.frz od (.dK kv))) {l l' : LV} {v : V} {fp : List Addr} (h : thinL l = some l') (r : RepL K F H l v fp) : l = l' ∧ RepL K (less F a) H l' v fp := by
  cases l with
  | fro p =>
    simp only [thinL] at h
    split at h
    · rename_i hn
      cases h
      exact ⟨rfl, Rep.thin fa hn r.1, r.2⟩
    · cases h
  | own p =>
    obtain ⟨b, h1, h2, h3⟩ := r
    have hq : ∃ q, l' = .own q := by
      cases p <;> simp only [thinL] at h <;> first | (split at h <;> first | (cases h; exact ⟨_, rfl⟩) | cases h) | cases h
    obtain ⟨q, rfl⟩ := hq
    obtain ⟨rfl, h4⟩ := own_thin fa h h2
    exact ⟨rfl, b, h1, h4, h3⟩
  | ins c ns ls => cases h
end
section
variable {K : PySem.W.Frag} {Hl F : Hp} {A : List Addr} {ρ : Env} {σ : L2.St} {a : Addr} {od : Obj} {kv : List (Key × V)}
/-- the dict's object among what is frozen -/
theorem SR.addF {u : HO} (s : SR ⟨K, Hl, F, A⟩ F ρ σ Hl) (ha : Hl a = some u) (nA : a ∉ A) (fa : F a = none) : SR ⟨K, Hl, upd F a u, A⟩ (upd F a u) ρ σ Hl := by
  obtain ⟨fp, h1, h2⟩ := s.own
  have e : Same F (upd F a u) := same_updF fa
  refine ⟨fun b o q => ?_, Same.refl _, s.keep, fun b n => .inl n, s.len, fp, fun i l hl => ?_, h2⟩
  · by_cases z : b = a
    · subst z; rw [upd_same] at q; cases q; exact ha
    · rw [upd_ne z] at q; exact s.le b o q
  · obtain ⟨v, hv, r, nd, q⟩ := h1 i l hl
    refine ⟨v, hv, r.frame e fun b _ => rfl, nd, fun b hb => ⟨?_, (q b hb).2⟩⟩
    rw [upd_ne]
    · exact (q b hb).1
    · intro z
      subst z
      rcases (q b hb).2 with z | z
      · exact nA z
      · have z : Hl b = none := z
        rw [ha] at z; cases z
/-- .. and out of it again -/
theorem SR.thinF {F' H' : Hp} (s : SR ⟨K, Hl, upd F a (.frz od (.dK kv)), A⟩ F' ρ σ H') (fa : F a = none) : SR ⟨K, Hl, F, A⟩ (less F' a) (thin ρ) σ H' ∧ ∀ F1, Same (upd F a (.frz od (.dK kv))) F1 → Same F (less F1 a) := by
  have hF : ∀ F1, Same (upd F a (.frz od (.dK kv))) F1 → Same F (less F1 a) := fun F1 e b o h => by
    have nb : b ≠ a := ne_of_none h fa
    rw [less_ne nb]
    exact e b o (by rw [upd_ne nb]; exact h)
  have fa' : F' a = some (.frz od (.dK kv)) := s.f0 a _ upd_same
  obtain ⟨fp, h1, h2⟩ := s.own
  have lift : ∀ {i : Nat} {l : LV}, (Br.thin ρ)[i]? = some (some l) → ∃ m, ρ[i]? = some (some m) ∧ thinL m = some l := fun {i l} h => by
    unfold Br.thin at h
    rw [List.getElem?_map] at h
    cases e : ρ[i]? with
    | none => rw [e] at h; cases h
    | some o =>
      rw [e] at h
      cases o with
      | none => cases h
      | some m => exact ⟨m, rfl, by simpa [thinO] using h⟩
  refine ⟨⟨fun b o h => s.le b o (less_of h).2, hF F' s.f0, s.keep, fun b n => ?_, ?_, fp, fun i l hl => ?_, fun i j l m hij hi hj => ?_⟩, hF⟩
  · by_cases z : b = a
    · subst z; rw [less_a] at n; exact absurd rfl n
    · rw [less_ne z] at n
      rcases s.fo b n with q | q
      · have q : upd F a (.frz od (.dK kv)) b ≠ none := q
        rw [upd_ne z] at q
        exact .inl q
      · exact .inr q
  · have := s.len
    unfold Br.thin
    rw [List.length_map]
    exact this
  · obtain ⟨m, hm, ht⟩ := lift hl
    obtain ⟨v, hv, r, nd, q⟩ := h1 i m hm
    obtain ⟨rfl, r2⟩ := RepL.thin fa' ht r
    refine ⟨v, hv, r2, nd, fun b hb => ⟨?_, (q b hb).2⟩⟩
    have q1 := (q b hb).1
    rw [less_ne]
    · exact q1
    · intro z
      subst z
      rw [fa'] at q1; cases q1
  · obtain ⟨l', hl', _⟩ := lift hi
    obtain ⟨m', hm', _⟩ := lift hj
    exact h2 i j l' m' hij hl' hm'
end
theorem XC.to {X : Cx} {C C' : Cb} (o : XC X C) (h : C'.K = C.K) : XC X C' := ⟨⟨h.trans o.K, o.nd, o.un⟩, o.calm⟩
section
variable {C : Cb} {Φ : Nat → List LV → CR} {W : WX} {pr : List Nat} {n : Nat} {X : Cx} {tg : Expr} {pos p : Pos} {x : Str} {sb : List Stmt}
theorem lock_end {i : Nat} {a : Addr} {p0 : PV} {kv : List (Key × V)} {Hl : Hp} {A : List Addr} {D : Ends} {σ : L2.St} {F : Hp} {r : SO} {od : Obj} (hσ : σ[i]? = some (some (.ref a))) (fa : F a = none)
    (back : ∀ F' ρ' σ' H', SR ⟨C.K, Hl, F, A⟩ F' ρ' σ' H' → H' a = some (.frz od (.dK kv)) ∧ SR C F' (some (.own p0) :: ρ') (some (.ref a) :: σ') (upd H' a (.dK kv))) (q : SPost C W pr D σ F (lockR i (.own p0) r)) :
    SPost ⟨C.K, Hl, upd F a (.frz od (.dK kv)), A⟩ W (i :: pr) ⟨fun σ' H' => H' a = some (.frz od (.dK kv)) ∧ D.nx σ' (upd H' a (.dK kv)), fun v H' => H' a = some (.frz od (.dK kv)) ∧ D.rt v (upd H' a (.dK kv)), fun σ' H' => H' a = some (.frz od (.dK kv)) ∧ D.bk σ' (upd H' a (.dK kv)), fun σ' H' => H' a = some (.frz od (.dK kv)) ∧ D.ct σ' (upd H' a (.dK kv))⟩ σ (upd F a (.frz od (.dK kv))) r := by
  have keepS : ∀ {σ' : L2.St}, Kp (i :: pr) σ σ' → Kp pr σ σ' ∧ σ'.set i (some (.ref a)) = σ' := fun {σ'} k => by
    refine ⟨fun j hj => k j (List.mem_cons_of_mem _ hj), ?_⟩
    have h := k i (by simp)
    rw [hσ] at h
    obtain ⟨hi, e⟩ := List.getElem?_eq_some_iff.mp h
    rw [← e]
    exact List.set_getElem_self hi
  cases r with
  | nx ρ1 =>
    intro F' σ' H' e' k' s'
    obtain ⟨s4, hF⟩ := s'.thinF fa
    obtain ⟨hl, s2⟩ := back _ _ σ' H' s4
    obtain ⟨kp, es⟩ := keepS k'
    refine ⟨hl, q _ σ' _ (hF F' e') kp ?_⟩
    have s3 := s2.put i
    rw [es] at s3
    exact s3
  | rt v ρ1 =>
    intro F' σ' H' w e' k' s'
    obtain ⟨s4, hF⟩ := s'.thinF fa
    simp only [lockR] at q
    split at q
    · rename_i v2 hv
      have ev : Br.thin (some v :: ρ1) = some v2 :: Br.thin ρ1 := by
        show thinL v :: _ = _
        rw [hv]
        rfl
      rw [ev] at s4
      obtain ⟨hl, s2⟩ := back _ _ (some w :: σ') H' s4
      obtain ⟨kp, es⟩ := keepS k'
      refine ⟨hl, q _ σ' _ w (hF F' e') kp ?_⟩
      have s3 := s2.put (i + 1)
      simp only [List.set_cons_succ] at s3
      rw [es] at s3
      exact s3
    · exact False.elim q
  | bk ρ1 => exact False.elim q
  | ct ρ1 => exact False.elim q
  | ex c ρ1 => exact False.elim q
  | st => exact False.elim q
/-- the slot of the locked dict reads it -/
theorem SR.readF {K : PySem.W.Frag} {F H : Hp} {A : List Addr} {ρ : Env} {σ : L2.St} {i : Nat} {a : Addr} {od : Obj} {ks : List Key} {vs : List PV} {xs : List V} (hσ : σ[i]? = some (some (.ref a))) (fa : F a = none) (nA : a ∉ A) (hl : ks.length = xs.length) (nd : ks.Nodup) (rr : Reps K F vs xs)
    (s : SR ⟨K, upd H a (.frz od (.dK (ks.zip xs))), F, A⟩ F (ρ.set i none) σ (upd H a (.frz od (.dK (ks.zip xs))))) :
    SR ⟨K, upd H a (.frz od (.dK (ks.zip xs))), upd F a (.frz od (.dK (ks.zip xs))), A⟩ (upd F a (.frz od (.dK (ks.zip xs)))) (ρ.set i (some (.fro (.dK ks vs)))) σ (upd H a (.frz od (.dK (ks.zip xs)))) := by
  have s2 := s.addF (u := .frz od (.dK (ks.zip xs))) upd_same nA fa
  have s3 := (s2.push (p := .dK ks vs) (v := .ref a) ⟨a, xs, rfl, .inr ⟨od, upd_same⟩, hl, nd, rr.mono (same_updF fa)⟩).put i
  obtain ⟨hi, e⟩ := List.getElem?_eq_some_iff.mp hσ
  have e2 : σ.set i (some (.ref a)) = σ := by rw [← e]; exact List.set_getElem_self hi
  rw [e2, List.set_set] at s3
  exact s3
/-- for x in d, d of our own -/
theorem st_forK {i : Nat} {t : Tg} {ib : List St} (o : XC X C) (hp : PassesOwn (model X.prog X.w) X.A X.env X.xe) (hN : X.N[i]? = some x) (hv : Vis X.env.scope x) (hd : ∀ j ∈ t.ix, j ∉ i :: pr)
    (hg : ∀ C' : Cb, C'.K = C.K → PG X tg (tG C' t)) (hb : ∀ C' : Cb, C'.K = C.K → PSs X sb (tSs C' Φ W (i :: pr) n ib)) (h1 : (x == ("__debug__" : Str)) = false := by decide) (h2 : (x == ("__classdict__" : Str)) = false := by decide)
    (hs : ∀ y, foldedSetIterable (.Name x p) X.env y = pure y := by intro _; rfl) : PS X (.For tg (.Name x p) sb [] pos) (tS C Φ W pr n (.for (.lock i false) t ib)) :=
  (ps_lock (ps_for hp o.calm (pi_keys (pe_var hN hv h1 h2)) (bG.to hg) (bSs.to hb) hs)).weak fun D σ H q => by
    obtain ⟨ρ, F, s, q⟩ := q
    unfold exS at q
    dsimp only at q
    unfold at' at q
    split at q
    · rename_i ks vs hl
      split at hl
      · rename_i l' e
        cases hl
        obtain ⟨v, hv', s1⟩ := s.lift e
        obtain ⟨a, ha, ⟨xs, hH, hlen, nd, rr⟩, fa, _⟩ := s.ownAt e
        rw [hv'] at ha
        cases ha
        obtain ⟨A, nA, hA⟩ := s1.lockU hH
        refine ⟨a, .dK (ks.zip xs), hH, trivial, fun od => ?_⟩
        obtain ⟨s2, back⟩ := hA od
        rw [if_neg Bool.false_ne_true] at q
        have q2 := lock_end hv' fa back q
        have s2 := s2.readF hv' fa nA hlen nd rr
        refine ⟨.ref a, hv', a, od, rfl, .inl ⟨ks.zip xs, upd_same, ?_⟩⟩
        obtain ⟨Wv, w0, w1⟩ := for_core hd s2 (keys_items (C := C) upd_same nA hlen) q2
        exact ⟨Wv, w0, fun i m σ8 H8 h => (w1 i m σ8 H8 h).imp id fun ⟨g, Nx, h1, h2⟩ => ⟨g, Nx, h1, fun x H' y => by
          obtain ⟨ρ5, F5, p5, ρ6, g1, g2, g3, g4⟩ := h2 x H' y
          exact ⟨⟨C.K, upd H a (.frz od (.dK (ks.zip xs))), upd F a (.frz od (.dK (ks.zip xs))), A⟩, rfl, ρ5, F5, p5, ρ6, g1, g2, g3, fun σ' H' o s => ⟨⟨C.K, upd H a (.frz od (.dK (ks.zip xs))), upd F a (.frz od (.dK (ks.zip xs))), A⟩, rfl, g4 σ' H' o s⟩⟩⟩⟩
      · cases hl
    · exact False.elim q
/-- for x, y in d.items(), d of our own -/
theorem st_forI {elts : List Expr} {kk : Nat} {tpos apos cpos : Pos} {i : Nat} {t : Tg} {ib : List St} (o : XC X C) (hp : PassesOwn (model X.prog X.w) X.A X.env X.xe) (hN : X.N[i]? = some x) (hv : Vis X.env.scope x) (hd : ∀ j ∈ t.ix, j ∉ i :: pr)
    (hg : ∀ C' : Cb, C'.K = C.K → PG X (.Tuple elts kk tpos) (tG C' t)) (hb : ∀ C' : Cb, C'.K = C.K → PSs X sb (tSs C' Φ W (i :: pr) n ib)) (h1 : (x == ("__debug__" : Str)) = false := by decide) (h2 : (x == ("__classdict__" : Str)) = false := by decide)
    (hbase : attributeBase (.Name x p) "items" X.env (eval (.Name x p) X.env) = eval (.Name x p) X.env := by rfl) (hline : (apos.endLine == cpos.line) = true := by rfl)
    (hs : ∀ y, foldedSetIterable (.Call (.Attribute (.Name x p) "items" apos) [] [] cpos) X.env y = pure y := by intro _; rfl) : PS X (.For (.Tuple elts kk tpos) (.Call (.Attribute (.Name x p) "items" apos) [] [] cpos) sb [] pos) (tS C Φ W pr n (.for (.lock i true) t ib)) :=
  (ps_lock (ps_for hp o.calm (pi_items (pe_var hN hv h1 h2) hbase hline) (bG.to hg) (bSs.to hb) hs)).weak fun D σ H q => by
    obtain ⟨ρ, F, s, q⟩ := q
    unfold exS at q
    dsimp only at q
    unfold at' at q
    split at q
    · rename_i ks vs hl
      split at hl
      · rename_i l' e
        cases hl
        obtain ⟨v, hv', s1⟩ := s.lift e
        obtain ⟨a, ha, ⟨xs, hH, hlen, nd, rr⟩, fa, _⟩ := s.ownAt e
        rw [hv'] at ha
        cases ha
        obtain ⟨A, nA, hA⟩ := s1.lockU hH
        refine ⟨a, .dK (ks.zip xs), hH, trivial, fun od => ?_⟩
        obtain ⟨s2, back⟩ := hA od
        rw [if_pos rfl] at q
        have q2 := lock_end hv' fa back q
        have s2 := s2.readF hv' fa nA hlen nd rr
        refine ⟨.ref a, hv', a, od, ks.zip xs, rfl, upd_same, ?_⟩
        obtain ⟨Wv, w0, w1⟩ := for_core hd s2 (pair_items (C := C) upd_same nA hlen (rr.mono (same_updF fa))) q2
        exact ⟨Wv, w0, fun i m σ8 H8 h => (w1 i m σ8 H8 h).imp id fun ⟨g, Nx, h1, h2⟩ => ⟨g, Nx, h1, fun x H' y => by
          obtain ⟨ρ5, F5, p5, ρ6, g1, g2, g3, g4⟩ := h2 x H' y
          exact ⟨⟨C.K, upd H a (.frz od (.dK (ks.zip xs))), upd F a (.frz od (.dK (ks.zip xs))), A⟩, rfl, ρ5, F5, p5, ρ6, g1, g2, g3, fun σ' H' o s => ⟨⟨C.K, upd H a (.frz od (.dK (ks.zip xs))), upd F a (.frz od (.dK (ks.zip xs))), A⟩, rfl, g4 σ' H' o s⟩⟩⟩⟩
      · cases hl
    · exact False.elim q
end
end Br
set_option maxHeartbeats 2000000
/-! BrG3: a temporary of our own as an argument that the def may write; displays of pairs whose object is known. -/
namespace Br
open PySem PySem.Spec PyProof.Rows L2
section
variable {K : PySem.W.Frag} {F : Hp} {σ : L2.St} {w : Option V}
theorem AVR.sh : ∀ {a : AV} {v : V}, AVR K F σ a v → AVR K F (w :: σ) a.sh v
  | .val _, _, h => h
  | .ref _, _, h => h
theorem AVRs.sh : ∀ {as : List AV} {vs : List V}, AVRs K F σ as vs → AVRs K F (w :: σ) (as.map AV.sh) vs
  | [], _, h => h
  | a :: as, _, h => by
    obtain ⟨v, r, h1, h2, h3⟩ := h
    exact ⟨v, r, h1, h2.sh, AVRs.sh h3⟩
theorem AVRs.app : ∀ {as bs : List AV} {vs ws : List V}, AVRs K F σ as vs → AVRs K F σ bs ws → AVRs K F σ (as ++ bs) (vs ++ ws)
  | [], _, vs, _, h, k => by rw [show vs = [] from h]; exact k
  | a :: as, _, _, _, h, k => by
    obtain ⟨v, r, rfl, h2, h3⟩ := h
    exact ⟨v, _, rfl, h2, AVRs.app h3 k⟩
end
theorem evAs_0 {Φ : Nat → List LV → CR} {ρ : Env} : evAs Φ [] ρ = .ok [] ρ := by rw [evAs]
theorem evAs_c {Φ : Nat → List LV → CR} {a : Arg} {as : List Arg} {ρ : Env} : evAs Φ (a :: as) ρ = (evA Φ a ρ).bind fun av ρ1 => (evAs Φ as ρ1).bind fun avs ρ2 => .ok (av :: avs) ρ2 := by rw [evAs]
def evM (Φ : Nat → List LV → CR) (as : List Arg) (k : Nat) (cs bs : List Arg) (ρ : Env) : ER (List AV × LV × List AV) :=
  (evAs Φ as ρ).bind fun avs ρ1 => (evL Φ (.call k cs) ρ1).bind fun l ρ3 => (evAs Φ bs ρ3).bind fun bvs ρ4 => .ok (avs, l, bvs) ρ4
section
variable (C : Cb) (Φ : Nat → List LV → CR) (W : WX)
def PostM (σ : L2.St) (F : Hp) (r : ER (List AV × LV × List AV)) (Q : List V → Hp → Prop) : Prop := match r with
  | .ok m ρ => ∀ F' H' v, Same F F' → SR C F' (some m.2.1 :: ρ) (some v :: σ) H' → ∀ vs ws, AVRs C.K F' σ m.1 vs → AVRs C.K F' σ m.2.2 ws → Q (vs ++ v :: ws) H'
  | .ex c ρ => ∀ F' H', Same F F' → SR C F' ρ σ H' → W (.ref (He.ga C.K c)) none σ H'
  | .st => False
def tMs (as : List Arg) (k : Nat) (cs bs : List Arg) : TA := fun σ H Q => ∃ ρ F, SR C F ρ σ H ∧ PostM C W σ F (evM Φ as k cs bs ρ) Q
/-- arguments' reading over any base -/
def bAs (K : PySem.W.Frag) (bs : List Arg) : TA := fun σ H Q => ∃ C : Cb, C.K = K ∧ tAs C Φ W bs σ H Q
end
section
variable {C : Cb} {Φ : Nat → List LV → CR} {W : WX} {X : Cx} {a e : Expr} {es : List Expr} {pos p : Pos} {x : Str}
theorem bAs.to {K : PySem.W.Frag} {bs : List Arg} (h : ∀ C : Cb, C.K = K → PA X es (tAs C Φ W bs)) : PA X es (bAs Φ W K bs) :=
  ⟨fun pos pins s σ H Q I q => by obtain ⟨C, hC, q⟩ := q; exact (h C hC).run pos pins s σ H Q I q⟩
theorem m_nil {k : Nat} {cs bs : List Arg} (he : PE X e (tL' C Φ W (.call k cs))) (hb : ∀ C' : Cb, C'.K = C.K → PA X es (tAs C' Φ W bs)) (hs : starEach (e :: es) X.env = (false, eval e X.env) :: starEach es X.env := by rfl) : PA X (e :: es) (tMs C Φ W [] k cs bs) :=
  (pa_cons he (bAs.to hb) hs).weak fun σ H Q q => by
    obtain ⟨ρ, F, s, q⟩ := q
    have q : PostM C W σ F ((evL Φ (.call k cs) ρ).bind fun l ρ3 => (evAs Φ bs ρ3).bind fun bvs ρ4 => .ok ([], l, bvs) ρ4) Q := by
      unfold evM at q
      rw [evAs_0] at q
      exact q
    refine ⟨ρ, F, s, ?_⟩
    cases hr : evL Φ (.call k cs) ρ with
    | st => rw [hr] at q; exact q
    | ex c ρ3 =>
      rw [hr] at q
      exact fun F' H' e' s' => q F' H' e' s'
    | ok l ρ3 =>
      rw [hr] at q
      intro F3 H3 v e3 s3
      obtain ⟨A, s4, back⟩ := s3.hide
      refine ⟨⟨C.K, H3, F3, A⟩, rfl, ρ3, F3, s4, ?_⟩
      have q : PostM C W σ F ((evAs Φ bs ρ3).bind fun bvs ρ4 => .ok ([], l, bvs) ρ4) Q := q
      cases hb2 : evAs Φ bs ρ3 with
      | st => rw [hb2] at q; exact q
      | ex c ρ4 =>
        rw [hb2] at q
        exact fun F' H' e' s' => q F' H' (e3.trans e') (back F' ρ4 H' s').pop
      | ok bvs ρ4 =>
        rw [hb2] at q
        exact fun F' H' e' s' ws r => q F' H' v (e3.trans e') (back F' ρ4 H' s') [] ws rfl r
theorem m_cons {ia : Arg} {ias : List Arg} {k : Nat} {cs bs : List Arg} (ha : PE X a (tA1 C Φ W ia)) (hr : PA X es (tMs C Φ W ias k cs bs)) (hs : starEach (a :: es) X.env = (false, eval a X.env) :: starEach es X.env := by rfl) : PA X (a :: es) (tMs C Φ W (ia :: ias) k cs bs) :=
  (pa_cons ha hr hs).weak fun σ H Q q => by
    obtain ⟨ρ, F, s, q⟩ := q
    have q : PostM C W σ F ((evA Φ ia ρ).bind fun av ρ0 => (evM Φ ias k cs bs ρ0).bind fun m ρ4 => .ok (av :: m.1, m.2.1, m.2.2) ρ4) Q := by
      unfold evM at q ⊢
      rw [evAs_c, ER.bind_assoc] at q
      refine cast (congrArg (fun f => PostM C W σ F ((evA Φ ia ρ).bind f) Q) (funext fun av => funext fun ρ0 => ?_)) q
      rw [ER.bind_assoc, ER.bind_assoc]
      congr 1
      funext avs ρ1
      rw [ER.bind_ok, ER.bind_assoc]
      congr 1
      funext l ρ3
      rw [ER.bind_assoc]
      congr 1
    refine ⟨ρ, F, s, ?_⟩
    cases hA : evA Φ ia ρ with
    | st => rw [hA] at q; exact q
    | ex c ρ0 =>
      rw [hA] at q
      exact fun F' H' e' s' => q F' H' e' s'
    | ok av ρ0 =>
      rw [hA] at q
      intro F1 H1 e1 s1 v r
      refine ⟨ρ0, F1, s1, ?_⟩
      have q : PostM C W σ F ((evM Φ ias k cs bs ρ0).bind fun m ρ4 => .ok (av :: m.1, m.2.1, m.2.2) ρ4) Q := q
      cases hM : evM Φ ias k cs bs ρ0 with
      | st => rw [hM] at q; exact q
      | ex c ρ4 =>
        rw [hM] at q
        exact fun F' H' e' s' => q F' H' (e1.trans e') s'
      | ok m ρ4 =>
        rw [hM] at q
        exact fun F' H' w e' s' vs ws r1 r2 => q F' H' w (e1.trans e') s' (v :: vs) ws ⟨v, vs, rfl, r.mono e', r1⟩ r2
theorem call_tM {j k : Nat} {as cs bs : List Arg} {σ : L2.St} {H : Hp} {Q : VK} (q : tL' C Φ W (.callT j as k cs bs) σ H Q) : tCallS (spOf C.K (Φ j)) (WE W) (tMs C Φ W as k cs bs) σ H Q := by
  obtain ⟨ρ, F, s, q⟩ := q
  have q : PostL C W σ F ((evM Φ as k cs bs ρ).bind fun m ρ4 => callT (Φ j) m.1 m.2.1 m.2.2 ρ4) fun _ _ _ H' v => Q v H' := by
    refine cast (congrArg (fun r => PostL C W σ F r fun _ _ _ H' v => Q v H') ?_) q
    unfold evM
    show (evAs Φ as ρ).bind _ = _
    rw [ER.bind_assoc]
    congr 1
    funext avs ρ1
    show _ = (((evAs Φ cs ρ1).bind fun cvs ρ2 => callE (Φ k) cvs ρ2).bind _).bind _
    rw [ER.bind_assoc, ER.bind_assoc]
    congr 1
    funext cvs ρ2
    congr 1
    funext l ρ3
    rw [ER.bind_assoc]
    congr 1
  refine ⟨ρ, F, s, ?_⟩
  cases hM : evM Φ as k cs bs ρ with
  | st => rw [hM] at q; exact q
  | ex c ρ4 =>
    rw [hM] at q
    exact fun F' H' e' s' => q F' H' e' s'
  | ok m ρ4 =>
    rw [hM] at q
    obtain ⟨avs, l, bvs⟩ := m
    intro F1 H1 v e1 s1 vs ws r1 r2
    have q : PostL C W σ F (dropT (callE (Φ j) (avs.map AV.sh ++ .ref 0 :: bvs.map AV.sh) (some l :: ρ4))) fun _ _ _ H' v => Q v H' := q
    have rs : AVRs C.K F1 (some v :: σ) (avs.map AV.sh ++ .ref 0 :: bvs.map AV.sh) (vs ++ v :: ws) := r1.sh.app ⟨v, ws, rfl, rfl, r2.sh⟩
    unfold callE at q
    split at q
    · rename_i ls hls
      split at q
      · rename_i hnd
        obtain ⟨fp, sr, io⟩ := call_io s1 rs hls hnd
        refine ⟨F1, ls, fp, sr, ?_⟩
        have tl : ∀ ms, ∃ y t, AV.back (some l :: ρ4) (avs.map AV.sh ++ .ref 0 :: bvs.map AV.sh) ms = y :: t := fun ms => by
          have h := back_len (avs.map AV.sh ++ .ref 0 :: bvs.map AV.sh) ms (some l :: ρ4)
          cases hb : AV.back (some l :: ρ4) (avs.map AV.sh ++ .ref 0 :: bvs.map AV.sh) ms with
          | nil => rw [hb] at h; simp at h
          | cons y t => exact ⟨y, t, rfl⟩
        split at q
        · rename_i r ls' hg
          split at q
          · rename_i hl
            try rw [hg]
            intro v' H' F' sr'
            have z := io r v' ls' F' H' sr' hl
            obtain ⟨y, t, hb⟩ := tl (maskL ls ls')
            rw [hb] at z
            have q : ∀ F' H' v, Same F F' → SR C F' (some r :: (AV.back (some l :: ρ4) (avs.map AV.sh ++ .ref 0 :: bvs.map AV.sh) (maskL ls ls')).tail) (some v :: σ) H' → Q v H' := q
            rw [hb] at q
            exact q F' H' v' (e1.trans sr'.f0) z.drop2
          · exact False.elim q
        · rename_i cc ls' hg
          split at q
          · rename_i hl
            try rw [hg]
            intro H' F' sr'
            have z := (io (.fro .non) .non ls' F' H' (sr'.push rfl) hl).pop
            obtain ⟨y, t, hb⟩ := tl (maskL ls ls')
            rw [hb] at z
            have q : ∀ F' H', Same F F' → SR C F' (AV.back (some l :: ρ4) (avs.map AV.sh ++ .ref 0 :: bvs.map AV.sh) (maskL ls ls')).tail σ H' → W (.ref (He.ga C.K cc)) none σ H' := q
            rw [hb] at q
            exact q F' H' (e1.trans sr'.f0) z.pop
          · exact False.elim q
        · exact False.elim q
      · exact False.elim q
    · exact False.elim q
theorem l_fnT {j kk k : Nat} {ps : List Str} {as cs bs : List Arg} (o : XO X C) (h : Ok X.prog X.w X.K X.mg X.base kk x ps (Φ j)) (hr : Room kk X.A) (hg : Gl X x) (tk : Takes X W) (ha : PA X (e :: es) (tMs C Φ W as k cs bs)) (hdb : (x == ("__debug__" : Str)) = false := by decide)
    (he : starEach (e :: es) X.env = (false, eval e X.env) :: starEach es X.env := by rfl) (hpl : (backTo pos (starEach es X.env)).any (·.1) = false := by rfl) : PE X (.Call (.Name x p) (e :: es) [] pos) (tL' C Φ W (.callT j as k cs bs)) := by
  obtain ⟨fd, Fn, hk, hb, hm⟩ := h
  exact (pe_callS Fn hr hg hm hk hb (passAt tk) ha hdb he hpl).weak fun _ _ _ q => by rw [← o.K]; exact call_tM q
theorem e_callT {j k : Nat} {as cs bs : List Arg} (h : PE X e (tL' C Φ W (.callT j as k cs bs))) : PE X e (tE C Φ W (.callT j as k cs bs)) := e_ofL h fun ρ => by
  show evE Φ (.callT j as k cs bs) ρ = ER.bind ((evAs Φ as ρ).bind fun avs ρ1 => (evAs Φ cs ρ1).bind fun cvs ρ2 => (callE (Φ k) cvs ρ2).bind fun l ρ3 => (evAs Φ bs ρ3).bind fun bvs ρ4 => callT (Φ j) avs l bvs ρ4) (fun l ρ => ER.of l.pv ρ)
  rw [ER.bind_assoc]
  unfold evE
  congr 1
  funext avs ρ1
  rw [ER.bind_assoc]
  congr 1
  funext cvs ρ2
  rw [ER.bind_assoc]
  congr 1
  funext l ρ3
  rw [ER.bind_assoc]
  rfl
/-- a display whose object is known -/
theorem pe_tupX {t : TA} {k : Nat} (h : PA X es t) : PE X (.Tuple es k pos) (fun σ H Q => t σ H fun xs H1 => xs.length ≤ sizeLine ∧ ∀ p o, H1 p = none → o.dict = none → Q (.ref p) (upd H1 p (.frz o (.tup xs)))) := by
  refine ⟨fun pins s σ H Q I hq => ?_⟩
  refine wpAny_Tuple_spliced (thn (h.run pos pins s σ H _ I hq) fun us s1 ⟨xs, H1, I1, r, z, q⟩ => ⟨by rw [← r.length]; exact z, ?_⟩)
  have hf : H1 s1.heap.objs.size = none := I1.hok.fresh (Nat.le_refl _)
  let ob : Obj := { cls := .type "tuple", data := .seq us.toArray }
  refine ⟨.ref s1.heap.objs.size, upd H1 s1.heap.objs.size (.frz ob (.tup xs)), I1.laid (t' := s1.toks) (fun b u e => Heap.get?_push_of_some _ e) (Nat.le_refl _) ?_, rfl, q _ ob hf rfl⟩
  exact ⟨Heap.get?_push_size _ rfl, z, us, r, ⟨_, Heap.get?_push_size _ rfl, rfl, _, rfl⟩⟩
theorem e_xtup {k : Nat} {irs : List Ex} (h : PA X es (tEs C Φ W irs)) : PE X (.Tuple es k pos) (tE C Φ W (.xtup irs)) := (pe_tupX h).weak fun σ H Q q => by
  obtain ⟨ρ, F, s, q⟩ := q
  unfold evE at q
  refine ⟨ρ, F, s, q.bind.imp fun ps ρ1 F1 H1 e1 s1 k1 xs r => ?_⟩
  split at k1
  · rename_i hl
    refine ⟨by rw [← r.length]; exact lim_line hl, fun p o hf hd => ?_⟩
    have e2 : Same F1 (upd F1 p (.frz o (.tup xs))) := same_updF (s1.fnone hf)
    exact k1 _ _ e2 (s1.alloc hf _) _ ⟨p, xs, o, rfl, upd_same, hd, r.mono e2⟩
  · exact False.elim k1
end
end Br
set_option maxHeartbeats 4000000
/-! BrX1: try .. except X as e: the refusal is tracked as its one object; isinstance of it; defs that an except suite calls. -/
namespace Br
open PySem PySem.Spec PyProof.Rows L2

/-! ### what the head says of the refusals' classes -/
def clsU (K : PySem.W.Frag) (x : Str) : Value := if x = "ValueError" then .type "ValueError" else .ref (He.ga K x)
def clsW (K : PySem.W.Frag) (x : Str) : V := if x = "ValueError" then .ty "ValueError" else .ref (He.ga K x)
theorem clsV_of (K : PySem.W.Frag) (x : Str) : ClsV (clsW K x) (clsU K x) := by
  unfold clsW clsU
  by_cases h : x = "ValueError"
  · rw [if_pos h, if_pos h]; exact .ty _
  · rw [if_neg h, if_neg h]; exact .own _
theorem clsVs_of (K : PySem.W.Frag) : ∀ cs : List Str, Paired ClsV (cs.map (clsW K)) (cs.map (clsU K))
  | [] => .nil
  | x :: cs => .cons (clsV_of K x) (clsVs_of K cs)
def exB0 (K : PySem.W.Frag) (D : Addr) : Bool := He.eqO (PySem.W.findIn K (.ref D) "__getattribute__") (some (some (.builtin "BaseException.__getattribute__"))) &&
  (He.eqO (PySem.W.findIn K (.ref D) "__getattr__") (some none) && (decide (PySem.W.subIn K (.ref D) (.type "BaseException") = some true) && (PySem.W.hasDictIn K D &&
  (He.eqO (PySem.W.findIn K (.ref D) "__class__") (some (some (.builtin "object.__class__"))) && (He.eqO (PySem.W.specialIn K (.builtin "object.__class__") "__get__") (some (some (.builtin "getset_descriptor.__get__"))) &&
  (decide (PySem.W.takesIn K (.builtin "object.__class__") = some true) && decide (PySem.W.mroIn K D (.type "object") = some true)))))))
theorem exB0_ok {K : PySem.W.Frag} {D : Addr} (h : exB0 K D = true) : ExcC K D := by
  unfold exB0 at h
  simp only [Bool.and_eq_true, decide_eq_true_eq] at h
  obtain ⟨h1, h2, h3, h4, h5, h6, h7, h8⟩ := h
  exact ⟨He.eqO_ok h1, He.eqO_ok h2, h3, h4, He.eqO_ok h5, He.eqO_ok h6, h7, h8⟩
def exB (kn : List Str) (K : PySem.W.Frag) : Bool := (kn.all fun c => exB0 K (He.ga K c)) && ((kn.all fun c => (("BrimError" : Str) :: "ValueError" :: kn).all fun x => decide (PySem.W.kitOne K (.ref (He.ga K c)) (clsU K x) = some (subX c x))) &&
  ((kn.all fun c => (("BrimError" : Str) :: kn).all fun x => decide (PySem.W.exmOne K (.ref (He.ga K c)) (.ref (He.ga K x)) = some (subX c x))) && (("BrimError" : Str) :: "ValueError" :: kn).all fun x => decide (PySem.W.kitOne K (.type "NoneType") (clsU K x) = some false)))
structure EX (kn : List Str) (K : PySem.W.Frag) : Prop where
  c : ∀ c ∈ kn, ExcC K (He.ga K c)
  k : ∀ c ∈ kn, ∀ x ∈ ("BrimError" : Str) :: "ValueError" :: kn, PySem.W.kitOne K (.ref (He.ga K c)) (clsU K x) = some (subX c x)
  m : ∀ c ∈ kn, ∀ x ∈ ("BrimError" : Str) :: kn, PySem.W.exmOne K (.ref (He.ga K c)) (.ref (He.ga K x)) = some (subX c x)
  n : ∀ x ∈ ("BrimError" : Str) :: "ValueError" :: kn, PySem.W.kitOne K (.type "NoneType") (clsU K x) = some false
theorem exB_ok {kn : List Str} {K : PySem.W.Frag} (h : exB kn K = true) : EX kn K := by
  unfold exB at h
  rw [Bool.and_eq_true, Bool.and_eq_true, Bool.and_eq_true] at h
  obtain ⟨h1, h2, h3, h4⟩ := h
  exact ⟨fun c hc => exB0_ok (List.all_eq_true.mp h1 c hc), fun c hc x hx => of_decide_eq_true (List.all_eq_true.mp (List.all_eq_true.mp h2 c hc) x hx),
    fun c hc x hx => of_decide_eq_true (List.all_eq_true.mp (List.all_eq_true.mp h3 c hc) x hx), fun x hx => of_decide_eq_true (List.all_eq_true.mp h4 x hx)⟩
/-- the head's Hook with these facts -/
abbrev AlX : Type := Bool × He.AlD
def obsX (n : Nat) (ck : PySem.W.Frag → Bool) (fa : List He.Fa) (fn : List He.DefD) (g : Addr → Option Obj) : AlX := (ck (He.frG g (He.asD g n)), He.obsDG n fa fn g)
def SaysX (ck : PySem.W.Frag → Bool) (fa : List He.Fa) (fn : List He.DefD) (K : PySem.W.Frag) : Prop := ck K = true ∧ He.SaysD fa fn K
def hookX (n : Nat) (ck : PySem.W.Frag → Bool) (fa : List He.Fa) (fn : List He.DefD) : PySem.W.Hook where
  α := AlX
  obs := fun s => obsX n ck fa fn s.heap.get?
  val := fun _ => (true, He.valD fn)
  says := fun _ h => ∃ K : PySem.W.Frag, K.In h ∧ SaysX ck fa fn K
  of := fun _ _ e => ⟨_, He.frG_in, congrArg Prod.fst e, congrArg Prod.snd e⟩
  keeps := fun _ _ _ ⟨K, hK, c⟩ k => ⟨K, PySem.W.Frag.In.keeps hK k, c⟩
theorem obsX_eq {n : Nat} {ck : PySem.W.Frag → Bool} {fa : List He.Fa} {fn : List He.DefD} {g : Addr → Option Obj} {s : Shared} (h : ∀ a, g a = s.heap.get? a) : obsX n ck fa fn g = (hookX n ck fa fn).obs s := by
  have e : g = s.heap.get? := funext h
  rw [e] <;> rfl

/-! ### isinstance of a refusal, or of None -/
theorem kitAny_clsU {K : PySem.W.Frag} {t : Value} {f : Str → Bool} : ∀ {cs : List Str}, (∀ x ∈ cs, PySem.W.kitOne K t (clsU K x) = some (f x)) → PySem.W.kitAny K t (cs.map (clsU K)) = some (cs.any f)
  | [], _ => rfl
  | x :: cs, h => by
    have h1 := h x (by simp)
    have h2 := kitAny_clsU (cs := cs) fun y hy => h y (by simp [hy])
    rw [List.map_cons, List.any_cons]
    unfold PySem.W.kitAny
    rw [h1]
    cases f x with
    | true => rfl
    | false => exact h2
section
variable {X : Cx}
/-- an exception's object, as the state has it -/
theorem inst_of {pins : List (Addr × Obj)} {σ : L2.St} {H : Hp} {s : Shared} {F : Hp} {c : Str} {v : V} (I : L2.Inv X pins σ H s) (e : Same F H) (h : ExcR X.K F c v) : ∃ a oe, v = .ref a ∧ PySem.W.InstAt s.heap a oe (He.ga X.K c) none := by
  obtain ⟨a, oe, vs, rfl, hF, ⟨z1, z2⟩, hd⟩ := h
  obtain ⟨hg, _, _⟩ := I.hok a _ (e _ _ hF)
  have hg : s.heap.get? a = some oe := hg
  obtain ⟨oc, od, oda, osl⟩ := oe
  dsimp only at z1 z2 hd
  subst z1 z2 hd
  exact ⟨a, _, rfl, hg, rfl, rfl, trivial⟩
def exArg (kn : List Str) (K : PySem.W.Frag) (H : Hp) (cs : List Str) (x : V) (Q : VK) : Prop := rOp K (.isEx kn cs) [x] H Q
theorem isEx_end {kn cs : List Str} {ps : List PV} {r : PV} (h : isExP kn cs ps = some r) : (∀ x ∈ cs, x ∈ ("BrimError" : Str) :: "ValueError" :: kn) ∧ ((∃ c, ps = [.exc c] ∧ c ∈ kn ∧ r = .bl (cs.any (subX c))) ∨ (ps = [.non] ∧ r = .bl false)) := by
  unfold isExP at h
  split at h
  · split at h
    · rename_i c h1
      cases h
      exact ⟨h1.2, .inl ⟨c, rfl, h1.1, rfl⟩⟩
    · cases h
  · split at h
    · rename_i h1
      cases h
      exact ⟨h1, .inr ⟨rfl, rfl⟩⟩
    · cases h
  · cases h
theorem cr_isEx1 {kn : List Str} {c : Str} (hx : EX kn X.K) : CallR X (.builtin "isinstance") (fun xs H Q => ∃ x, xs = [x, clsW X.K c] ∧ rOp X.K (.isEx kn [c]) [x] H Q) := by
  intro pins s σ H xs us Q I r h
  obtain ⟨x, rfl, F, ps, q, e, hb, ho, qq⟩ := h
  obtain ⟨p, rfl, h1⟩ := hb.one
  obtain ⟨h2, h3⟩ := isEx_end ho
  have hc := h2 c (by simp)
  rcases h3 with ⟨d, hd, hk, rfl⟩ | ⟨hd, rfl⟩
  · cases hd
    cases r with
    | cons rx rr =>
      cases rr with
      | cons rt rr =>
        cases rr
        have et := (clsV_of X.K c).eq rt
        subst et
        obtain ⟨a, oe, rfl, J⟩ := inst_of I e h1
        cases rx
        have C := hx.c d hk
        refine PySem.W.kia_one (PySem.W.handS_kitx_exc C.hg C.hk C.hs C.hd C.ha C.hn C.ht C.hm) I.kIn J (hx.k d hk c hc) (fun z => nomatch z) fun tk => ⟨.bl (subX d c), H, I.kept (t' := tk) fun _ _ z => z, rfl, ?_⟩
        have := qq (.bl ([c].any (subX d))) H (.inl ⟨rfl, rfl, fun _ _ _ => ⟨(fun z => nomatch z), fun z => nomatch z⟩⟩)
        simpa using this
  · cases hd
    have hn : x = .non := h1
    subst hn
    exact call_isi pins s σ H _ us Q I r ⟨.non, clsW X.K c, _, _, false, rfl, clsV_of X.K c, .base .non, hx.n c hc, qq _ H (.inl ⟨rfl, rfl, fun _ _ _ => ⟨(fun z => nomatch z), fun z => nomatch z⟩⟩)⟩
theorem cr_isExN {kn cs : List Str} (hx : EX kn X.K) : CallR X (.builtin "isinstance") (fun xs H Q => ∃ x tp, xs = [x, .ref tp] ∧ H tp = some (.tup (cs.map (clsW X.K))) ∧ rOp X.K (.isEx kn cs) [x] H Q) := by
  intro pins s σ H xs us Q I r h
  obtain ⟨x, tp, rfl, hT, F, ps, q, e, hb, ho, qq⟩ := h
  obtain ⟨p, rfl, h1⟩ := hb.one
  obtain ⟨h2, h3⟩ := isEx_end ho
  rcases h3 with ⟨d, hd, hk, rfl⟩ | ⟨hd, rfl⟩
  · cases hd
    cases r with
    | cons rx rr =>
      cases rr with
      | cons rt rr =>
        cases rr
        cases rt
        obtain ⟨a, oe, rfl, J⟩ := inst_of I e h1
        cases rx
        have C := hx.c d hk
        obtain ⟨_, its, rv, o, g1, g2, n, g3⟩ := (show ObjOk X.prog X.w H s.heap tp (.tup (cs.map (clsW X.K))) from I.hok tp _ hT)
        have e3 := ClsV.all (clsVs_of X.K cs) rv
        subst e3
        obtain ⟨oc, od, dt, sl⟩ := o
        simp only at g2 g3
        subst g2 g3
        exact PySem.W.kia_tup (PySem.W.handS_kitx_exc C.hg C.hk C.hs C.hd C.ha C.hn C.ht C.hm) I.kIn J g1 (kitAny_clsU fun y hy => hx.k d hk y (h2 y hy)) (fun z => nomatch z) fun tk => ⟨.bl (cs.any (subX d)), H, I.tok tk, rfl,
          qq _ H (.inl ⟨rfl, rfl, fun _ _ _ => ⟨(fun z => nomatch z), fun z => nomatch z⟩⟩)⟩
  · cases hd
    have hn : x = .non := h1
    subst hn
    refine call_isiT pins s σ H _ us Q I r ⟨.non, tp, _, _, _, false, rfl, hT, clsVs_of X.K cs, .base .non, ?_, qq _ H (.inl ⟨rfl, rfl, fun _ _ _ => ⟨(fun z => nomatch z), fun z => nomatch z⟩⟩)⟩
    have := kitAny_clsU (K := X.K) (t := .type "NoneType") (f := fun _ => false) (cs := cs) fun y hy => hx.n y (h2 y hy)
    rw [this]
    simp
end
section
variable {C : Cb} {Φ : Nat → List LV → CR} {W : WX} {X : Cx} {a b c e : Expr} {es : List Expr} {pos p : Pos} {x : Str}
/-- a class by its name -/
theorem tc_own (hg : Gl X x) (hm : X.mg x = some (.ref (He.ga X.K x))) (hn : x ≠ "ValueError" := by decide) (hd : (x == ("__debug__" : Str)) = false := by decide) : PE X (.Name x p) (tC (clsW X.K x)) := by
  unfold clsW
  rw [if_neg hn]
  exact pe_glob hg hm rfl hd
theorem boot_ve : bootBuiltins "ValueError" = some (.type "ValueError") := by decide +kernel
theorem tc_ve (hg : Gl X "ValueError") (hm : X.mg "ValueError" = none) : PE X (.Name "ValueError" p) (tC (clsW X.K "ValueError")) := by
  unfold clsW
  rw [if_pos rfl]
  exact pe_bltn hg hm boot_ve rfl
/-- isinstance(x, C) -/
theorem o_isX1 {kn : List Str} {cl : Str} {ia : Arg} (hx : EX kn X.K) (hg : Gl X "isinstance") (hm : X.mg "isinstance" = none) (o : XO X C) (ha : PE X a (tA1 C Φ W ia)) (hb : PE X b (tC (clsW X.K cl)))
    (he : starEach [a, b] X.env = (false, eval a X.env) :: starEach [b] X.env := by rfl) (he2 : starEach [b] X.env = (false, eval b X.env) :: starEach [] X.env := by rfl) (hpl : (backTo pos (starEach [b] X.env)).any (·.1) = false := by rfl) :
    PE X (.Call (.Name "isinstance" p) [a, b] [] pos) (tO C Φ W (.isEx kn [cl]) [ia]) :=
  (pe_callB (cr_isEx1 (c := cl) hx) hg hm boot_isinstance (pa_cons ha (pa_cons hb pa_nil he2) he) (by decide) (by decide) he hpl).weak fun σ H Q q =>
    (tO_1 q).imp fun v H' k => ⟨v, rfl, by rw [← o.K]; exact k⟩
theorem tcs_nil : PA X [] (fun _ H Q => Q (([] : List Str).map (clsW X.K)) H) := pa_nil.weak fun _ _ _ q => q
theorem tcs_cons {y : Str} {cs : List Str} (h : PE X e (tC (clsW X.K y))) (hr : PA X es (fun _ H Q => Q (cs.map (clsW X.K)) H)) (hs : starEach (e :: es) X.env = (false, eval e X.env) :: starEach es X.env := by rfl) : PA X (e :: es) (fun _ H Q => Q ((y :: cs).map (clsW X.K)) H) :=
  (pa_cons h hr hs).weak fun _ _ _ q => q
/-- isinstance(x, (C, ..)) -/
theorem e_isXN {kn cs : List Str} {ia : Arg} {k : Nat} {p2 : Pos} (hx : EX kn X.K) (hz : cs.length ≤ 30) (hg : Gl X "isinstance") (hm : X.mg "isinstance" = none) (o : XO X C) (ha : PE X a (tA1 C Φ W ia)) (hb : PA X es (fun _ H Q => Q (cs.map (clsW X.K)) H))
    (he : starEach [a, .Tuple es k p2] X.env = (false, eval a X.env) :: starEach [.Tuple es k p2] X.env := by rfl) :
    PE X (.Call (.Name "isinstance" p) [a, .Tuple es k p2] [] pos) (tE C Φ W (.app (.isEx kn cs) [ia])) :=
  (pe_callB (cr_isExN (cs := cs) hx) hg hm boot_isinstance (pa_cons ha (pa_cons (pe_tup hb) pa_nil) he) (by decide) (by decide) he rfl).weak fun σ H Q q => by
    obtain ⟨ρ, F, s, q⟩ := q
    unfold evE at q
    have q := q.bind
    unfold evAs at q
    refine ⟨ρ, F, s, q.bind.imp fun av ρ1 F1 H1 e1 s1 k1 v r => ?_⟩
    have k1 : Post C W σ F1 ((AV.pvs ρ1 [av]).bind (opX (.isEx kn cs)) |> fun o => ER.of o ρ1) fun p _ F' H' => ∀ v, Rep C.K F' p v → Q v H' := k1 F1 H1 (Same.refl F1) s1
    obtain ⟨y, hy, k2⟩ := k1.of
    obtain ⟨ps, h1, h2⟩ := Option.bind_eq_some_iff.mp hy
    refine ⟨?_, fun tp hf => ⟨v, tp, rfl, upd_same, ?_⟩⟩
    · rw [List.length_map]
      exact Nat.le_trans hz (by decide)
    · have s2 := s1.allocH hf (.tup (cs.map (clsW X.K)))
      obtain ⟨ps', hb', h2⟩ := opX_sem (AVRs.b s2 (as := [av]) (vs := [v]) ⟨v, [], rfl, r, rfl⟩ h1) h2
      refine ⟨F1, ps', y, s2.le, (by rw [o.K] at hb'; exact hb'), h2, fun v' H' hr => ?_⟩
      replace hr : ResR C.K F1 (upd H1 tp (.tup (cs.map (clsW X.K)))) (Op.new (.isEx kn cs)) y v' H' := by rw [o.K]; exact hr
      obtain ⟨F3, e3, s3, r3⟩ := hr.fro s2
      exact k2 F3 H' e3 s3 v' r3
end

/-! ### try .. except x as n, the exception's object tracked -/
/-- a fresh object is tracked from now on -/
theorem track {X : Cx} {pins : List (Addr × Obj)} {σ : L2.St} {H : Hp} {s : Shared} {a : Addr} {oe : Obj} {vs : Array Value} (I : L2.Inv X pins σ H s) (na : H a = none) (ha : s.heap.get? a = some oe) (hd : oe.data = .fields vs) (nL : a ≠ X.env.locals)
    (n0 : X.s_0.heap.get? a = none) (np : ∀ p ∈ X.pn ++ pins, p.1 ≠ a) : L2.Inv X pins σ (upd H a (.ext fun h => h.get? a = some oe)) s := by
  have ne0 : ∀ {b : Addr} {o : Obj}, X.s_0.heap.get? b = some o → b ≠ a := fun {b o} e z => by rw [z, n0] at e; cases e
  have neH : ∀ {b : Addr} {u : HO}, H b = some u → b ≠ a := fun {b u} e z => by rw [z, na] at e; cases e
  have up : ∀ {b : Addr} {u : HO}, H b = some u → upd H a (.ext fun h => h.get? a = some oe) b = some u := fun {b u} e => by rw [upd_ne (neH e)]; exact e
  refine ⟨I.ok, I.os, I.bare, ⟨I.base.keep, I.base.slot, fun b o e n hx => ?_, I.base.there, fun b xs e => up (I.base.tups b xs e), fun b o u e => up (I.base.frzs b o u e), fun b ps e => ?_⟩, I.loc, I.cell, ?_, fun x c e => ?_, fun p hp => ?_, fun b u e => ?_, I.len⟩
  · rw [upd_ne (ne0 e)]; exact I.base.free b o e n hx
  · obtain ⟨more, m⟩ := I.base.tbls b ps e
    exact ⟨more, up m⟩
  · rw [upd_ne (Ne.symm nL)]; exact I.free
  · have nc : c ≠ a := fun z => by
      obtain ⟨v, o, ho, hc⟩ := I.cell x c e
      rw [z, ha] at ho
      cases ho
      rw [hd] at hc
      cases hc
    rw [upd_ne nc]; exact I.freeC x c e
  · obtain ⟨h1, h2, h3⟩ := I.pin p hp
    exact ⟨h1, by rw [upd_ne (np p hp)]; exact h2, h3⟩
  · by_cases hb : b = a
    · subst hb
      rw [upd_same] at e
      cases e
      exact ⟨ha, ⟨oe, ha⟩, fun h1 h2 q k => k _ q⟩
    · rw [upd_ne hb] at e
      exact (I.hok b u e).stay (fun _ _ _ q => q) (fun c q => up q) fun c xs q => up q

/-- what the clause wishes of an exception of the body -/
def wAsX (K : PySem.W.Frag) (c : Value) (i : Nat) (ts : TS) (Wout : WX) (D : Ends) : WX := fun cls d σ H =>
  ∃ b, PySem.W.exmOne K cls c = some b ∧ (b = true → ∀ a oe vs, H a = none → Zc cls d oe → oe.data = .fields vs →
      ts { nx := fun σ' H' => D.nx (σ'.set i none) H', rt := D.rt, bk := fun σ' H' => D.bk (σ'.set i none) H', ct := fun σ' H' => D.ct (σ'.set i none) H' } (σ.set i (some (.ref a))) (upd H a (.ext fun h => h.get? a = some oe))) ∧
    (b = false → Wout cls d σ H)
/-- the suite's context -/
abbrev suX (X : Cx) (a : Addr) (pn : List (Addr × Obj)) : Cx := { X with A := X.A.mark (some (.ref a)), calm := false, pn := pn, xe := fun _ _ => False }
theorem inv_suX {X : Cx} {pins : List (Addr × Obj)} {σ : L2.St} {H : Hp} {s : Shared} (I : L2.Inv X pins σ H s) (a : Addr) : L2.Inv (suX X a (X.pn ++ pins)) [] σ H s :=
  ⟨I.ok.suite _ _, I.os, I.bare, I.base, I.loc, I.cell, I.free, I.freeC, fun p hp => I.pin p (by rw [List.append_nil] at hp; exact hp), I.hok, I.len⟩
theorem inv_unX {X : Cx} {pins pn' : List (Addr × Obj)} {σ : L2.St} {H : Hp} {s : Shared} {a : Addr} (I : L2.Inv (suX X a (X.pn ++ pins)) pn' σ H s) (ok : X.Ok) : L2.Inv X pins σ H s :=
  ⟨ok, I.os, I.bare, I.base, I.loc, I.cell, I.free, I.freeC, fun p hp => I.pin p (List.mem_append_left _ hp), I.hok, I.len⟩
section
variable {X : Cx} {x n : Str} {c : Value} {i : Nat} {body suite : List Stmt} {b₀ : Stmt} {np pos pos' : Pos} {tb : WX → TS} {ts : TS} {Wout : WX}
theorem ps_asX (hex : X.ex = []) (hs : X.stack = X.env :: X.outer) (hf : X.env.frame = some X.env.locals) (hN : X.N.Nodup) (hi : X.N[i]? = some n) (hln : X.env.kindOf n = some .local) (hc : Names X x c) (tk : Takes X Wout)
    (hb : ∀ (W : WX) (pn : List (Addr × Obj)) (xe : Value → Shared → Prop), Takes (X.tr pn xe) W → PassesOwn (model X.prog X.w) X.A X.env xe → PSs (X.tr pn xe) body (tb W))
    (hsu : ∀ (a : Addr) (pn : List (Addr × Obj)), PSs (suX X a pn) (b₀ :: suite) ts) :
    PS X (.Try body [.ExceptHandler (some (.Name x np)) (some n) (b₀ :: suite) pos'] [] [] pos) (fun D σ H => tb (wAsX X.K c i ts Wout D) D σ H) := by
  refine ⟨fun pins s σ H D I h => ?_⟩
  have ok := I.ok
  have frm : X.A.frames = some (X.env :: X.outer) := by rw [ok.frames, hs]
  -- the body's run, in the try's context
  have run := (hb (wAsX X.K c i ts Wout D) (X.pn ++ pins) (fun e s₁ => wpAny (model X.prog X.w) X.A (noteFrame e X.env) (fun _ s₂ => wpAny (model X.prog X.w) X.A (setFlight e none) (fun _ s₃ =>
    wpAny (model X.prog X.w) X.A (handleBy e X.env [.ExceptHandler (some (.Name x np)) (some n) (b₀ :: suite) pos']) (SP X pins D) X.xe s₃) X.xe s₂) X.xe s₁) (fun u s' air => ?_) PassesOwn.looking).run [] s σ H D (I.toTry _) h
  · refine wpAny_Try_except (wpAny_mono run (fun f s1 hsp => ?_) fun e s1 he => he)
    cases f with
    | next => obtain ⟨σ1, H1, J1, q1⟩ := hsp; exact wpAny_execs_nil ⟨σ1, H1, J1.ofTry ok, q1⟩
    | brk => obtain ⟨σ1, H1, J1, q1⟩ := hsp; exact ⟨σ1, H1, J1.ofTry ok, q1⟩
    | cont => obtain ⟨σ1, H1, J1, q1⟩ := hsp; exact ⟨σ1, H1, J1.ofTry ok, q1⟩
    | ret u => obtain ⟨v, σ1, H1, J1, r1, q1⟩ := hsp; exact ⟨v, σ1, H1, J1.ofTry ok, r1, q1⟩
  -- the catch
  obtain ⟨a, B, sI, pT, σ1, H1, cls, d, rfl, JT, nb, up, sky, na, os, ag, b, hb1, hyes, hno⟩ := air
  have J : L2.Inv X pins σ1 H1 sI := JT.ofTry ok
  have sky1 : Sky B (X.env :: X.outer) a (Zc cls d) X.env.locals s'.heap := by rw [← hs]; exact sky
  show wpAny (model X.prog X.w) X.A (noteFrame (.ref a) X.env) _ _ _
  refine Sky.land Zc.steady frm hf sky1 fun h3 fl3 up3 => ?_
  have J3 : L2.Inv X pins σ1 H1 { s' with heap := h3 } := J.landed nb fl3.1 (up.trans up3) os ag
  obtain ⟨oe3, vs3, he3, hz3, hd3⟩ := fl3.there
  have nfr : a ∉ frs (X.env :: X.outer) := fun hm => by
    obtain ⟨_, o, e, hnf⟩ := fl3.2.2.1.mem hm
    rw [he3] at e
    cases e
    exact hnf _ hd3
  have nL : a ≠ X.env.locals := fun z => nfr (List.mem_filterMap.mpr ⟨X.env, List.mem_cons_self, by rw [hf, z]⟩)
  have nF : a ∉ X.fs := fun hm => by
    obtain ⟨e, he, q⟩ := List.mem_filterMap.mp hm
    exact nfr (List.mem_filterMap.mpr ⟨e, List.mem_cons_of_mem _ he, q⟩)
  -- it is a new object
  have nI : ∀ o, sI.heap.get? a ≠ some o := fun o e => by
    have z := nb a o e (by rw [hs]; exact nfr)
    rw [fl3.2.1] at z
    cases z
  have n0 : X.s_0.heap.get? a = none := by
    cases q : X.s_0.heap.get? a with
    | none => rfl
    | some o =>
      obtain ⟨o', e⟩ := J.base.there a o q (by rw [hex]; simp)
      exact absurd e (nI o')
  have npin : ∀ p ∈ X.pn ++ pins, p.1 ≠ a := fun p hp z => by
    obtain ⟨e, _⟩ := J.pin p hp
    rw [z] at e
    exact nI _ e
  have S3 := J3.suite he3 hd3 na nL nF
  refine wpAny_handleBy_cons (codeAny_handlers_test ?_) (by intro q; cases q)
  have LT : PySem.W.Looks (model X.prog X.w) h3 (typeOf (.ref a)) cls := fun A Q E s k q => wpAny_typeOf_ref (k _ _ he3) (by rw [hz3.1]; exact q)
  have LM := PySem.W.exm_one (M := model X.prog X.w) (J3.kIn) LT hb1
  have test : ∀ {Q : Value → Shared → Prop} {E : Value → Shared → Prop}, Q c { s' with heap := h3 } → wpAny (model X.prog X.w) (X.A.mark (some (.ref a))) (eval (.Name x np) X.env) Q E { s' with heap := h3 } := fun {Q E} q => by
    obtain ⟨hg, hdbg, hm | ⟨hm, hv, hnn⟩⟩ := hc
    · exact ld_glob (X := X.suite a ((a, oe3) :: (X.pn ++ pins))) S3 hg hm q hdbg
    · exact ld_blt (X := X.suite a ((a, oe3) :: (X.pn ++ pins))) S3 hg hm hv q hnn hdbg
  refine test (LM.here ?_)
  cases b with
  | true =>
    refine codeAny_handlers_suite_as (HandSPX.lands_againZ fl3 fun h4 fl4 up4 => ?_)
    have J4 : L2.Inv X pins σ1 H1 { s' with heap := h4 } := J.landed nb fl4.1 ((up.trans up3).trans up4) os ag
    obtain ⟨oe4, vs4, he4, hz4, hd4⟩ := fl4.there
    have S4 : L2.Inv (suX X a (X.pn ++ pins)) [] σ1 (upd H1 a (.ext fun h => h.get? a = some oe4)) { s' with heap := h4 } := inv_suX (track J4 na he4 hd4 nL n0 npin) a
    refine store_ok (X := suX X a (X.pn ++ pins)) (v := .ref a) S4 hN hi (.inl hln) rfl (fun s5 S5 => ?_) (.inr hln)
    refine wpAny_mono ((hsu a (X.pn ++ pins)).run [] s5 _ _ _ S5 (hyes rfl a oe4 vs4 na hz4 hd4)) (fun f s6 hsp => ?_) (fun _ _ z => False.elim z)
    have fin : ∀ {σ6 : L2.St} {H6 : Hp} {Q : Shared → Prop}, L2.Inv (suX X a (X.pn ++ pins)) [] σ6 H6 s6 → (∀ s7, L2.Inv X pins (σ6.set i none) H6 s7 → Q s7) →
        wpAny (model X.prog X.w) X.A (do bindName X.env n .none; unbindBehindTheSuite X.env n pos') (fun _ s7 => Q s7) X.xe s6 := fun {σ6 H6 Q} S6 hq => gone_ok (inv_unX S6 ok) hN hi hln hq
    cases f with
    | next => obtain ⟨σ6, H6, S6, q6⟩ := hsp; exact fin S6 fun s7 J7 => ⟨_, _, J7, q6⟩
    | brk => obtain ⟨σ6, H6, S6, q6⟩ := hsp; exact fin S6 fun s7 J7 => ⟨_, _, J7, q6⟩
    | cont => obtain ⟨σ6, H6, S6, q6⟩ := hsp; exact fin S6 fun s7 J7 => ⟨_, _, J7, q6⟩
    | ret u => obtain ⟨v6, σ6, H6, S6, r6, q6⟩ := hsp; exact fin S6 fun s7 J7 => ⟨_, _, _, J7, r6, q6⟩
  | false =>
    show wpAny _ X.A (handleBy (.ref a) X.env []) _ _ _
    refine wpAny_handleBy_nil ?_
    obtain ⟨k1, k2, k3, oe, vs, T, oT, ts', he, hz, hd, h1, hr⟩ := id fl3
    unfold PySem.passOn
    refine wpAny_bind (wpAny_field he hd h1 ?_)
    rw [if_neg (show ¬ ((Value.ref T == Value.none) = true) from by simp)]
    have up_ : wpAny (model X.prog X.w) X.A (setFlight (.ref a) X.env.frame) (fun _ s4 => wpAny (model X.prog X.w) X.A (throw (.ref a) : Sem Flow) (SP X pins D) X.xe s4) X.xe { s' with heap := h3 } := by
      rw [hf]
      refine HandSPX.setFlight_upZ fl3 fun h4 hh4 up4 => wpAny_throw (tk _ _ ?_)
      exact ⟨a, B, sI, pins, σ1, H1, cls, d, rfl, J, nb, (up.trans up3).trans up4, .inr (.inr (by rw [hs]; exact hh4)), na, os, ag, hno rfl⟩
    first
      | exact wpAny_bind (wpAny_pure (wpAny_bind up_))
      | exact wpAny_bind up_
end
end Br
set_option maxHeartbeats 4000000
/-! BrX2: the statement try; defs that an except suite calls. -/
namespace Br
open PySem PySem.Spec PyProof.Rows L2

section
variable {C : Cb} {Φ : Nat → List LV → CR} {W : WX} {pr : List Nat} {n : Nat} {X : Cx} {pos pos' np : Pos} {x y : Str} {body suite : List Stmt} {b₀ : Stmt}
theorem XC.tr (o : XC X C) {pn : List (Addr × Obj)} {xe : Value → Shared → Prop} : XC (X.tr pn xe) C := ⟨⟨o.K, o.nd, o.un⟩, o.calm⟩
theorem XO.su (o : XO X C) {a : Addr} {pn : List (Addr × Obj)} : XO (suX X a pn) C := ⟨o.K, o.nd, o.un⟩
theorem XO.sup (o : XO X C) {a : Addr} {pn : List (Addr × Obj)} : XO (X.suite a pn) C := ⟨o.K, o.nd, o.un⟩
theorem roomS {k : Nat} {A : Around} {v : Option Value} (r : Room k A) : L2H.RoomH k (A.mark v) := ⟨r.dp, r.un⟩
theorem suiteX_post {i : Option Nat} {D D' : Ends} {σ σ' : L2.St} {F F' : Hp} {r : SO} (e : Same F F') (k : Kp pr σ σ') (q : SPost C W pr D σ F (suiteX i r))
    (hn : ∀ F2 ρ2 σ2 H2, SR C F2 ρ2 σ2 H2 → Kp pr σ' σ2 → (∀ σ3, Kp pr σ2 σ3 → SR C F2 (goneX i ρ2) σ3 H2 → D.nx σ3 H2) → D'.nx σ2 H2) (hb : ∀ F2 ρ2 σ2 H2, SR C F2 ρ2 σ2 H2 → Kp pr σ' σ2 → (∀ σ3, Kp pr σ2 σ3 → SR C F2 (goneX i ρ2) σ3 H2 → D.bk σ3 H2) → D'.bk σ2 H2)
    (hc : ∀ F2 ρ2 σ2 H2, SR C F2 ρ2 σ2 H2 → Kp pr σ' σ2 → (∀ σ3, Kp pr σ2 σ3 → SR C F2 (goneX i ρ2) σ3 H2 → D.ct σ3 H2) → D'.ct σ2 H2) (hr : D'.rt = D.rt) : SPost C W0 pr D' σ' F' r := by
  cases r with
  | nx ρ2 => exact fun F2 σ2 H2 e2 k2 s2 => hn F2 ρ2 σ2 H2 s2 k2 fun σ3 k3 s3 => q F2 σ3 H2 (e.trans e2) ((k.trans k2).trans k3) s3
  | bk ρ2 => exact fun F2 σ2 H2 e2 k2 s2 => hb F2 ρ2 σ2 H2 s2 k2 fun σ3 k3 s3 => q F2 σ3 H2 (e.trans e2) ((k.trans k2).trans k3) s3
  | ct ρ2 => exact fun F2 σ2 H2 e2 k2 s2 => hc F2 ρ2 σ2 H2 s2 k2 fun σ3 k3 s3 => q F2 σ3 H2 (e.trans e2) ((k.trans k2).trans k3) s3
  | rt l ρ2 => exact fun F2 σ2 H2 v e2 k2 s2 => by rw [hr]; exact q F2 σ2 H2 v (e.trans e2) (k.trans k2) s2
  | ex c ρ2 => exact False.elim q
  | st => exact False.elim q
/-- try: body, except x as y: suite -/
theorem st_tryAs {i : Nat} {kn : List Str} {ib is : List St} (hx : EX kn X.K) (o : XC X C) (hp : i ∉ pr) (tk : Takes X W) (hex : X.ex = []) (hs : X.stack = X.env :: X.outer) (hf : X.env.frame = some X.env.locals) (hi : X.N[i]? = some y) (hl : X.env.kindOf y = some .local)
    (hg : Gl X x) (hm : X.mg x = some (.ref (He.ga X.K x)))
    (hb : ∀ (W' : WX) (pn : List (Addr × Obj)) (xe : Value → Shared → Prop), Takes (X.tr pn xe) W' → PassesOwn (model X.prog X.w) X.A X.env xe → PSs (X.tr pn xe) body (tSs C Φ W' pr n ib))
    (hsu : ∀ (a : Addr) (pn : List (Addr × Obj)), PSs (suX X a pn) (b₀ :: suite) (tSs C Φ W0 pr n is)) (hd : (x == ("__debug__" : Str)) = false := by decide) :
    PS X (.Try body [.ExceptHandler (some (.Name x np)) (some y) (b₀ :: suite) pos'] [] [] pos) (tS C Φ W pr n (.tryx ib x (some i) kn is)) :=
  (ps_asX hex hs hf o.nd hi hl (c := .ref (He.ga X.K x)) ⟨hg, hd, .inl hm⟩ tk (tb := fun W' => tSs C Φ W' pr n ib) (ts := tSs C Φ W0 pr n is) hb hsu).weak fun D σ H q => by
    obtain ⟨ρ, F, s, q⟩ := q
    unfold exS at q
    refine ⟨ρ, F, s, ?_⟩
    cases hr : exSs Φ n ib ρ with
    | nx ρ1 => rw [hr] at q; exact q
    | bk ρ1 => rw [hr] at q; exact q
    | ct ρ1 => rw [hr] at q; exact q
    | rt l ρ1 => rw [hr] at q; exact q
    | st => rw [hr] at q; exact q
    | ex c ρ1 =>
      rw [hr] at q
      unfold tryK at q
      dsimp only at q
      by_cases hc : c ∈ kn ∧ x ∈ ("BrimError" : Str) :: kn
      case neg => rw [if_neg hc] at q; exact False.elim q
      rw [if_pos hc] at q
      intro F1 σ1 H1 e1 k1 s1
      refine ⟨subX c x, by rw [o.K]; exact hx.m c hc.1 x hc.2, fun hb a oe vs na hz hdt => ?_, fun hb => ?_⟩
      · rw [if_pos hb] at q
        have e2 : Same F1 (upd F1 a (.ext fun h => h.get? a = some oe)) := same_updF (s1.fnone na)
        refine ⟨_, _, (s1.alloc na (.ext fun h => h.get? a = some oe)).setFro (p := .exc c) (v := .ref a) ⟨a, oe, vs, rfl, upd_same, hz, hdt⟩ i, ?_⟩
        exact suiteX_post (e1.trans e2) (k1.trans (Kp.set hp)) q (fun F2 ρ2 σ2 H2 s2 k2 f => f _ (Kp.set hp) (s2.clear i none)) (fun F2 ρ2 σ2 H2 s2 k2 f => f _ (Kp.set hp) (s2.clear i none)) (fun F2 ρ2 σ2 H2 s2 k2 f => f _ (Kp.set hp) (s2.clear i none)) rfl
      · rw [hb, if_neg Bool.false_ne_true] at q
        exact q F1 σ1 H1 e1 k1 s1
/-- try: body, except x: suite -/
theorem st_tryOnly {kn : List Str} {ib is : List St} (hx : EX kn X.K) (o : XC X C) (tk : Takes X W) (hs : X.stack = X.env :: X.outer) (hf : X.env.frame = some X.env.locals)
    (hg : Gl X x) (hm : X.mg x = some (.ref (He.ga X.K x)))
    (hb : ∀ (W' : WX) (pn : List (Addr × Obj)) (xe : Value → Shared → Prop), Takes (X.tr pn xe) W' → PassesOwn (model X.prog X.w) X.A X.env xe → PSs (X.tr pn xe) body (tSs C Φ W' pr n ib))
    (hsu : ∀ (a : Addr) (pn : List (Addr × Obj)), PSs (X.suite a pn) (b₀ :: suite) (tSs C Φ W0 pr n is)) (hd : (x == ("__debug__" : Str)) = false := by decide) :
    PS X (.Try body [.ExceptHandler (some (.Name x np)) none (b₀ :: suite) pos'] [] [] pos) (tS C Φ W pr n (.tryx ib x none kn is)) :=
  (ps_try_only hs hf (c := .ref (He.ga X.K x)) ⟨hg, hd, .inl hm⟩ tk (tb := fun W' => tSs C Φ W' pr n ib) (ts := fun _ _ _ => tSs C Φ W0 pr n is) hb fun a oe cls d pn _ _ => hsu a _).weak fun D σ H q => by
    obtain ⟨ρ, F, s, q⟩ := q
    unfold exS at q
    refine ⟨ρ, F, s, ?_⟩
    cases hr : exSs Φ n ib ρ with
    | nx ρ1 => rw [hr] at q; exact q
    | bk ρ1 => rw [hr] at q; exact q
    | ct ρ1 => rw [hr] at q; exact q
    | rt l ρ1 => rw [hr] at q; exact q
    | st => rw [hr] at q; exact q
    | ex c ρ1 =>
      rw [hr] at q
      unfold tryK at q
      dsimp only at q
      by_cases hc : c ∈ kn ∧ x ∈ ("BrimError" : Str) :: kn
      case neg => rw [if_neg hc] at q; exact False.elim q
      rw [if_pos hc] at q
      intro F1 σ1 H1 e1 k1 s1
      refine ⟨subX c x, by rw [o.K]; exact hx.m c hc.1 x hc.2, fun hb a na => ?_, fun hb => ?_⟩
      · rw [if_pos hb] at q
        refine ⟨_, _, s1, ?_⟩
        exact suiteX_post e1 k1 q (fun F2 ρ2 σ2 H2 s2 k2 f => f _ Kp.refl s2) (fun F2 ρ2 σ2 H2 s2 k2 f => f _ Kp.refl s2) (fun F2 ρ2 σ2 H2 s2 k2 f => f _ Kp.refl s2) rfl
      · rw [hb, if_neg Bool.false_ne_true] at q
        exact q F1 σ1 H1 e1 k1 s1
end

/-! ### defs that a suite calls: straight on, no loops -/
structure FnG (P : Program) (w : World) (K : PySem.W.Frag) (mg : Str → Option Value) (base : Heap) (k : Nat) (f : Addr) (fd : FuncData) (ps : List Str) (sp : Sp) : Prop where
  len : ∀ vs H Q E, sp vs H Q E → vs.length = ps.length
  run : ∀ (A : Around) (outer : List PySem.Env) (s : Shared) (H : Hp) (args : Args) (us : List Value) (vs : List V) (Q : VK) (E : XK), L2H.RoomH k A → Env0 P w K mg base A outer s H → BindsTo s fd args (ps.zip us) → Vals vs us → sp vs H Q E →
    codeAny (model P w) A (.call (.ref f) args) (L2.CR (L2.CX P w) outer P w H s Q E) s
/-- the context of such a def's body; p, any pinned object -/
abbrev cxG (P : Program) (w : World) (K : PySem.W.Frag) (mg : Str → Option Value) (base : Heap) (N : List Str) (qual : Str) (scope : Scope) (f : Addr) (cd : Value) (A : Around) (outer : List PySem.Env) (s : Shared) (H : Hp) (E : XK) (p : Addr × Obj) : Cx := L2H.cxH (L2.CX P w) P w K mg base N qual scope f cd A outer s H E p
section
variable {P : Program} {w : World} {K : PySem.W.Frag} {mg : Str → Option Value} {base : Heap} {x qual : Str} {params : Arguments} {body : List Stmt} {scope : Scope} {f : Addr} {fd : FuncData} {N ps : List Str} {k n : Nat} {Φ : Nat → List LV → CR} {sp : Sp}
theorem fnG_of {dvs : List V} {kws : List (Str × V)} (Fd : FunD K x qual params body scope dvs kws f fd) (S : FnScope N ps scope) (len : ∀ vs H Q E, sp vs H Q E → vs.length = ps.length)
    (hbody : ∀ (cdv : Value) (A : Around) (outer : List PySem.Env) (s : Shared) (H : Hp) (vs : List V) (Q : VK) (E : XK) (p : Addr × Obj), L2H.RoomH k (A.deeper (envOfC qual scope s.heap.objs.size f cdv)) → sp vs H Q E →
      ∃ t, PSs (cxG P w K mg base N qual scope f cdv A outer s H E p) body t ∧ t { nx := fun _ H' => Q .non H', rt := Q } (L2.start N vs) H) : FnG P w K mg base (k + 1) f fd ps sp := by
  obtain ⟨oc, od, dV, kV, doc, pm, an, cdv, ct, osl, rfl, lk, hcd, _, _⟩ := Fd.ex
  refine ⟨len, fun A outer s H args us vs Q E hr e0 hb r hsp => ?_⟩
  have KX : K.In s.heap := e0.mod.kin.keeps fun b o e => (e0.bs b o e).1
  have lim : s.heap.NoLimit := e0.mod.nolimit.keeps fun b o e => (e0.bs b o e).1
  have atB := e0.mod.kin _ _ lk
  have nofs : f ∉ frs outer := fun hm => by
    have z := (e0.funs.mem hm).1
    rw [atB] at z
    cases z
  obtain ⟨pp, pinned⟩ : ∃ pp, L2H.PinOk outer H s pp := ⟨(f, ⟨oc, od, .func (PySem.W.fnOf x qual params body scope dV kV doc pm an cdv ct), osl⟩), (e0.bs _ _ atB).1, (e0.bs _ _ atB).2, nofs, (fun v z => by cases z)⟩
  have kinds : ∀ y ∈ ps.zip us, scope.names.lookup y.1 = some .local ∨ (scope.names.lookup y.1 = some .cell ∧ ((cellsFrom (s.heap.objs.size + 1) scope.names []).lookup y.1).isSome = true) := fun ⟨m, v⟩ hy => by
    rcases S.par m (List.of_mem_zip hy).1 with q | q
    · exact .inl q
    · exact .inr ⟨q, PySem.W.cellsFrom_some _ _ _ (.inl q)⟩
  refine codeAny_call_function hr.depth (KX _ _ lk) rfl S.co S.gen rfl (PySem.W.codeRec_of KX hcd) (hb _ _ _ _ ?_)
  refine wpAny_newFunctionEnv_cells S.kind kinds fun env he s1 st => ?_
  subst he
  refine ⟨lim.keeps st.toInCall.keep, codeAny_func ?_⟩
  obtain ⟨t, ht, hq⟩ := hbody cdv A outer s H vs Q E pp (hr.deeper _) hsp
  have I := L2H.inv_startH (CX := L2.CX P w) (E := E) S pinned e0 (len _ _ _ _ hsp) r st
  refine wpAny_mono (ht.run [] s1 (L2.start N vs) H _ I hq) (fun fl s' hs => ?_) fun e s' hs => hs
  have done : ∀ {σ' : L2.St} {H' : Hp} {v : V} {u : Value}, L2.Inv (cxG P w K mg base N qual scope f cdv A outer s H E pp) [] σ' H' s' → RelV v u → Q v H' → CE outer P w H s Q u s' :=
    fun {σ' H' v u} J rv q => ⟨v, H', J.os, J.bare, J.base, J.hok, rv, q⟩
  cases fl with
  | ret u => obtain ⟨v, σ', H', J, rv, q⟩ := hs; exact done J rv q
  | next => obtain ⟨σ', H', J, q⟩ := hs; exact done (v := V.non) (u := Value.none) J rfl q
  | brk => obtain ⟨_, _, _, q⟩ := hs; exact False.elim q
  | cont => obtain ⟨_, _, _, q⟩ := hs; exact False.elim q
structure BG (X : Cx) (C : Cb) (W : WX) (k : Nat) : Prop where
  o : XO X C
  tk : Takes X W
  room : L2H.RoomH k X.A
def OkG (P : Program) (w : World) (K : PySem.W.Frag) (mg : Str → Option Value) (base : Heap) (k : Nat) (x : Str) (ps : List Str) (g : List LV → CR) : Prop :=
  ∃ fd, FnG P w K mg base k (He.ga K x) fd ps (spOf K g) ∧ PySem.W.keepIn K (.ref (He.ga K x)) = true ∧ Binds K fd ps [] ∧ mg x = some (.ref (He.ga K x))
theorem body_start {fn : Fn} {ls : List LV} {vs : List V} {H F0 : Hp} {fp : List Addr} {Q : VK} {E : XK} (hN : fn.nn = N.length) (hc : vs.length = ls.length ∧ ls.length = fn.np ∧ fn.np ≤ fn.nn ∧ ioOk fn.io 0 ls = true) (sr : SR ⟨K, H, F0, fp⟩ F0 (ls.map some) (vs.map some) H)
    (h : match runFn Φ n fn ls with
      | .ok r ls' => ∀ v H' F', SR ⟨K, H, F0, fp⟩ F' (some r :: maskL ls ls') (some v :: vs.map some) H' → Q v H'
      | .ex c ls' => ∀ H' F', SR ⟨K, H, F0, fp⟩ F' (maskL ls ls') (vs.map some) H' → E (.ref (He.ga K c)) none H'
      | .st => False) : tSs ⟨K, H, F0, fp⟩ Φ (fun cls d _ H => E cls d H) fn.io n fn.body { nx := fun _ H' => Q .non H', rt := Q } (L2.start N vs) H := by
  obtain ⟨hvs, hnp, hnn, hio⟩ := hc
  have e1 : frameOf fn ls = ls.map some ++ List.replicate (N.length - vs.length) none := by
    unfold frameOf
    rw [hN, hvs]
  unfold runFn at h
  rw [if_pos ⟨hnp, hnn, hio⟩, e1] at h
  refine ⟨ls.map some ++ List.replicate (N.length - vs.length) none, F0, sr.pad _, ?_⟩
  cases hr : exSs Φ n fn.body (ls.map some ++ List.replicate (N.length - vs.length) none) with
  | nx ρ =>
    rw [hr] at h
    dsimp only at h
    cases hl : lvsOf ρ fn.np with
    | none => rw [hl] at h; exact h.elim
    | some as =>
      rw [hl] at h
      intro F' σ' H' e' k' s'
      obtain ⟨q1, q2⟩ := SR.leave (s'.push (p := .non) (v := .non) rfl) hvs hio hnp hl k'
      exact h _ _ _ q2
  | rt r ρ =>
    rw [hr] at h
    dsimp only at h
    cases hl : lvsOf ρ fn.np with
    | none => rw [hl] at h; exact h.elim
    | some as =>
      rw [hl] at h
      intro F' σ' H' v e' k' s'
      obtain ⟨q1, q2⟩ := SR.leave s' hvs hio hnp hl k'
      exact h _ _ _ q2
  | ex c ρ =>
    rw [hr] at h
    dsimp only at h
    cases hl : lvsOf ρ fn.np with
    | none => rw [hl] at h; exact h.elim
    | some as =>
      rw [hl] at h
      intro F' σ' H' e' k' s'
      obtain ⟨q1, q2⟩ := SR.leave (s'.push (p := .non) (v := .non) rfl) hvs hio hnp hl k'
      exact h _ _ q2.pop
  | bk ρ => rw [hr] at h; exact h.elim
  | ct ρ => rw [hr] at h; exact h.elim
  | st => rw [hr] at h; exact h.elim
theorem def_atG {st : Stmt} (fn : Fn) (D : Dn K mg x st) (S : FnScope N ps (defScope st)) (hN : fn.nn = N.length) (hp : fn.np = ps.length)
    (hbind : ∀ (kV doc pm : Value) (an : Option Addr) (cdv ct : Value) (us : List Value), us.length = ps.length → bindArgs (PySem.W.fnOf x x (defArgs st) (defBody st) (defScope st) .none kV doc pm an cdv ct) ⟨us, []⟩ = pure (ps.zip us))
    (hb : ∀ (cdv : Value) (A : Around) (outer : List PySem.Env) (s : Shared) (H : Hp) (E : XK) (p : Addr × Obj) (C : Cb),
      BG (cxG P w K mg base N x (defScope st) (He.ga K x) cdv A outer s H E p) C (fun cls d _ H => E cls d H) k →
      PSs (cxG P w K mg base N x (defScope st) (He.ga K x) cdv A outer s H E p) (defBody st) (tSs C Φ (fun cls d _ H => E cls d H) fn.io n fn.body)) :
    OkG P w K mg base (k + 1) x ps (runFn Φ n fn) := by
  obtain ⟨⟨fd, Fd⟩, hm⟩ := D
  refine ⟨fd, ?_, Fd.kp, Fd.bindsN hbind, hm⟩
  have hns : ∀ {vs H Q E}, spOf K (runFn Φ n fn) vs H Q E → ∃ F ls fp, SR ⟨K, H, F, fp⟩ F (ls.map some) (vs.map some) H ∧ (vs.length = ls.length ∧ ls.length = fn.np ∧ fn.np ≤ fn.nn ∧ ioOk fn.io 0 ls = true) ∧ (match runFn Φ n fn ls with
      | .ok r ls' => ∀ v H' F', SR ⟨K, H, F, fp⟩ F' (some r :: maskL ls ls') (some v :: vs.map some) H' → Q v H'
      | .ex c ls' => ∀ H' F', SR ⟨K, H, F, fp⟩ F' (maskL ls ls') (vs.map some) H' → E (.ref (He.ga K c)) none H'
      | .st => False) := fun {vs H Q E} h => by
    obtain ⟨F0, ls, fp, sr, h⟩ := h
    have h1 := sr.len
    rw [List.length_map, List.length_map] at h1
    refine ⟨F0, ls, fp, sr, ⟨h1.symm, runFn_ok (Φ := Φ) (n := n) fun z => ?_⟩, h⟩
    rw [z] at h
    exact h
  refine fnG_of Fd S (fun vs H Q E h => ?_) (fun cdv A outer s H vs Q E p hr h => ?_)
  · obtain ⟨_, ls, _, _, ⟨h1, h2, _⟩, _⟩ := hns h
    omega
  · obtain ⟨F0, ls, fp, sr, hc, h⟩ := hns h
    refine ⟨tSs ⟨K, H, F0, fp⟩ Φ (fun cls d _ H => E cls d H) fn.io n fn.body, ?_, ?_⟩
    · refine hb cdv A outer s H E p ⟨K, H, F0, fp⟩ ⟨⟨rfl, S.nd, ?_⟩, takes_of rfl rfl rfl rfl, hr⟩
      have := hr.un
      show (A.deeper _).units + 131 < cLine
      omega
    · exact body_start hN hc sr h
theorem OkG.up {j : Nat} {g : List LV → CR} (h : OkG P w K mg base j x ps g) (hjk : j ≤ k) : OkG P w K mg base k x ps g := by
  obtain ⟨fd, h1, h2⟩ := h
  exact ⟨fd, ⟨h1.len, fun A outer s H args us vs Q E hr => h1.run A outer s H args us vs Q E (hr.mono hjk)⟩, h2⟩
end
section
variable {C : Cb} {Φ : Nat → List LV → CR} {W : WX} {X : Cx} {e : Expr} {es : List Expr} {pos p : Pos} {x : Str} {k j : Nat} {ps : List Str} {irs : List Arg}
theorem l_fnG (o : XO X C) (h : OkG X.prog X.w X.K X.mg X.base k x ps (Φ j)) (hr : L2H.RoomH k X.A) (hg : Gl X x) (tk : Takes X W) (ha : PA X (e :: es) (tAs C Φ W irs)) (hdb : (x == ("__debug__" : Str)) = false := by decide)
    (he : starEach (e :: es) X.env = (false, eval e X.env) :: starEach es X.env := by rfl) (hpl : (backTo pos (starEach es X.env)).any (·.1) = false := by rfl) : PE X (.Call (.Name x p) (e :: es) [] pos) (tL' C Φ W (.call j irs)) := by
  obtain ⟨fd, Fn, hk, hb, hm⟩ := h
  have base : PE X (.Call (.Name x p) (e :: es) [] pos) (tCallS (spOf X.K (Φ j)) (WE W) (tAs C Φ W irs)) := by
    refine ⟨fun pins s σ H Q I h => ?_⟩
    refine wpAny_Call_Name_kw (ld_glob I hg hm ?_ hdb)
    refine PySem.W.callWith_K (h₀ := X.base) I.ok.mod.kin hk (thn (ha.run pos pins s σ H _ I h) fun us s1 ⟨vs, H1, I1, r, q⟩ => ⟨I1.kIn, ?_⟩) he hpl
    have hl : us.length = ps.length := by rw [← r.length]; exact Fn.len _ _ _ _ q
    have b := hb s1 us I1.kIn (by rw [List.append_nil]; exact hl)
    rw [List.append_nil] at b
    refine wpAny_call (codeAny_mono (Fn.run X.A X.stack s1 H1 ⟨us, []⟩ us vs Q (WE W σ) hr I1.env0 b r q) fun rr s' hq => ?_)
    cases rr with
    | error e => exact passAt tk σ pins H1 s1 e s' I1 hq
    | ok fl =>
      cases fl with
      | ret u => exact I1.after hq
      | next => exact False.elim hq
      | brk => exact False.elim hq
      | cont => exact False.elim hq
  exact base.weak fun _ _ _ q => by rw [← o.K]; exact call_tL q
end
end Br
set_option maxHeartbeats 4000000
/-! BrT1: tuples whose object is known; dict of pairs. -/
namespace Br
open PySem PySem.Spec PyProof.Rows L2
section
variable {X : Cx}
/-- tuple(l), the new object known -/
theorem call_tupX : CallR X (.type "tuple") (fun xs H Q => ∃ p ys, xs = [.ref p] ∧ ((SqL X.K H p ys ∧ ∀ l o, H l = none → o.dict = none → Q (.ref l) (upd H l (.frz o (.tup ys)))) ∨ (SqT X.K H p ys ∧ Q (.ref p) H))) := by
  intro pins s σ H xs us Q I r h
  obtain ⟨p, ys, rfl, h⟩ := h
  obtain ⟨u, rfl, rx⟩ := vals1 r
  cases rx
  rcases h with ⟨hq, q⟩ | ⟨hq, q⟩
  · obtain ⟨its, r', pl, hz⟩ := I.list hq
    have hlen := r'.length
    refine call_tuple_list pl.isList (fun h' kp => ?_) (by simp only [List.size_toArray] <;> omega)
    have I1 : L2.Inv X pins σ H { s with heap := h' } := I.kept (t' := s.toks) kp
    let ob : Obj := { cls := .type "tuple", data := .seq its.toArray }
    have I2 : L2.Inv X pins σ (upd H h'.objs.size (.frz ob (.tup ys))) { s with heap := h'.push ob } :=
      I1.laid (t' := s.toks) (fun b o e => Heap.get?_push_of_some _ e) (Nat.le_refl _) ⟨Heap.get?_push_size _ rfl, hz, its, r', IsTup.new _ _⟩
    exact ⟨.ref h'.objs.size, _, I2, rfl, q _ ob (I1.hok.fresh (Nat.le_refl _)) rfl⟩
  · obtain ⟨its, r', pl, hz⟩ := I.tuple hq
    exact call_tuple_same pl ⟨.ref p, H, I, rfl, q⟩
theorem cr_tupleX : CallR X (.type "tuple") (RCof X.K .tupleX) := by
  refine CallR.imp call_tupX fun xs H Q h => ?_
  obtain ⟨x, F, p, r, rfl, e, h1, ho, q⟩ := rOp_one h (len1 rfl fun a b c => by cases a <;> rfl)
  simp only [opSem] at ho
  unfold tupleXP at ho
  split at ho
  · rename_i a hl
    cases hl
    cases ho
    obtain ⟨c, xs, rfl, hc, rc⟩ := h1
    exact ⟨c, xs, rfl, .inl ⟨hc.sql, fun l o hl hd => q _ _ (.inr (.inr (.inr ⟨l, xs, o, a, hl, rfl, rfl, hd, rfl, rc⟩)))⟩⟩
  · rename_i a hl
    cases hl
    cases ho
    obtain ⟨c, xs, o, rfl, hc, hd, rc⟩ := h1
    exact ⟨c, xs, rfl, .inr ⟨.inl (.inr ⟨o, e _ _ hc⟩), q _ _ (.inl ⟨rfl, ⟨c, xs, o, rfl, hc, hd, rc⟩, fun _ _ _ => ⟨(fun z => nomatch z), fun z => nomatch z⟩⟩)⟩⟩
  · cases ho
/-- dict(t) of a tuple of pairs, its object known -/
theorem call_dictT (hcalm : X.calm = true) : CallR X (.type "dict") (fun xs H Q => ∃ (a : Addr) (o : Obj) (ps : List Addr) (kvs : List (Key × V)), xs = [.ref a] ∧ H a = some (.frz o (.tup (ps.map V.ref))) ∧ o.dict = none ∧ Paired (fun p kv => SqT X.K H p [kV kv.1, kv.2]) ps kvs ∧
    ∀ p, H p = none → Q (.ref p) (upd H p (.dK (mergeK [] kvs)))) := by
  intro pins s σ H xs us Q I r q
  obtain ⟨a, o, ps, kvs, rfl, hq, hd, hp, q⟩ := q
  obtain ⟨u, rfl, rx⟩ := vals1 r
  cases rx
  obtain ⟨ho, hz, its, rv, o', ho', hc, n, hdat⟩ := I.hok a _ hq
  rw [ho] at ho'
  cases ho'
  have ei := refs_at rv
  subst ei
  rw [List.length_map] at hz
  obtain ⟨prs, rel, hl, hpr⟩ := pairs_of I hp
  have hlen : (mergeK [] kvs).length ≤ sizeLine := by
    refine Nat.le_trans (length_mergeK kvs []) ?_
    rw [List.length_nil, Nat.zero_add, rel.length, hl]
    exact hz
  classical
  -- the pairs, by their own first items
  have key : ∀ j : Nat, ∃ u : Value, ∀ q : Key × Value, prs[j]? = some q → ∃ b, ps[j]? = some b ∧ IsTup s.heap b #[u, q.2] ∧ keyIs q.1 u = true := fun j => by
    cases e : prs[j]? with
    | none => exact ⟨.none, fun q z => by cases z⟩
    | some q =>
      obtain ⟨b, u, e1, e2, e3⟩ := hpr j q e
      exact ⟨u, fun q' z => by cases z; exact ⟨b, e1, e2, e3⟩⟩
  let ks : Nat → Value := fun j => Classical.choose (key j)
  have hks : ∀ j, ∀ q : Key × Value, prs[j]? = some q → ∃ b, ps[j]? = some b ∧ IsTup s.heap b #[ks j, q.2] ∧ keyIs q.1 (ks j) = true := fun j => Classical.choose_spec (key j)
  let vps : List (Value × Value) := prs.mapIdx fun j q => (ks j, q.2)
  have vlen : vps.length = prs.length := by simp [vps]
  have vget : ∀ (j : Nat) (k v : Value), vps[j]? = some (k, v) → ∃ q, prs[j]? = some q ∧ k = ks j ∧ v = q.2 := fun j k v e => by
    simp only [vps, List.getElem?_mapIdx, Option.map_eq_some_iff] at e
    obtain ⟨q, e1, e2⟩ := e
    cases e2
    exact ⟨q, e1, rfl, rfl⟩
  let Ts : Nat → Addr := fun j => ps.getD j 0
  have items : PairItems s.heap (ps.map Value.ref).toArray Ts vps := by
    refine ⟨by simp [vlen, hl], fun j k v e => ?_⟩
    obtain ⟨q, e1, rfl, rfl⟩ := vget j k v e
    obtain ⟨b, e2, e3, _⟩ := hks j q e1
    have eb : Ts j = b := by simp [Ts, List.getD, e2]
    rw [eb]
    exact ⟨by simp [e2], .inl e3⟩
  refine call_dict_pairs (knd := mixKind X.prog X.w) (kvs := prs) (PairArg.tuple a (ps.map Value.ref).toArray Ts vps) (I.ok.hd hcalm) ⟨⟨o, n, ho, hc, hd, hdat⟩, items⟩ ⟨vlen.symm, fun i k v e => ?_⟩ (by rw [vlen, hl]; exact hz) fun h' tk hd' k => ?_
  · obtain ⟨q, e1, rfl, rfl⟩ := vget i k v e
    obtain ⟨b, _, _, e3⟩ := hks i q e1
    exact ⟨q.1, e1, e3⟩
  · have hm : (s.heap.objs.size == sysModules) = false := beq_eq_false_iff_ne.mpr (Nat.ne_of_gt I.big)
    exact ⟨.ref s.heap.objs.size, upd H s.heap.objs.size (.dK (mergeK [] kvs)), I.laid (t' := tk) (fun b o e => k b o (by simp) e) (Nat.le_refl _) (show ObjOk X.prog X.w _ _ _ (.dK (mergeK [] kvs)) from ⟨hlen, hm, merged [] prs, KV.merge rel .nil, hd'⟩), rfl, q _ (I.hok.fresh (Nat.le_refl _))⟩
end

/-! ### what dict() makes of pairs -/
theorem keyP_kV {K : PySem.W.Frag} {F : Hp} {k : PV} {key : Key} {v : V} (h : keyP k = some key) (r : Rep K F k v) : v = kV key := by
  cases k with
  | int i => cases h; exact r
  | str i => cases h; exact r
  | _ => cases h
/-- the pairs' items in the heap -/
theorem pairsK_ok {K : PySem.W.Frag} {F H : Hp} (e : Same F H) : ∀ {l : List PV} {xs : List V} {r : List (Key × PV)}, pairsK l = some r → Reps K F l xs → ∃ (ps : List Addr) (kvs : List (Key × V)), xs = ps.map V.ref ∧ Paired (fun p kv => SqT K H p [kV kv.1, kv.2]) ps kvs ∧ kvs.map (·.1) = r.map (·.1) ∧ Reps K F (r.map (·.2)) (kvs.map (·.2))
  | [], xs, r, h, hr => by
    cases h
    have : xs = [] := hr
    subst this
    exact ⟨[], [], rfl, .nil, rfl, .nil⟩
  | p :: l, xs, r, h, hr => by
    obtain ⟨x, xs', rfl, h1, h2⟩ := hr
    unfold pairsK at h
    split at h
    · rename_i heq
      cases heq
    · rename_i k v l' heq
      cases heq
      split at h
      · rename_i key r' hk hr'
        cases h
        obtain ⟨ps, kvs, rfl, g1, g2, g3⟩ := pairsK_ok e hr' h2
        obtain ⟨a, ys, rfl, ha, y1, t1, rfl, ry, y2, t2, rfl, rz, rt⟩ := h1
        have : t2 = [] := rt
        subst this
        have hy := keyP_kV hk ry
        subst hy
        exact ⟨a :: ps, (key, y2) :: kvs, rfl, .cons (Same.sqt e ha) g1, by simp [g2], .cons rz g3⟩
      · cases h
    · cases h
theorem dmk_rep {K : PySem.W.Frag} {F : Hp} : ∀ (r : List (Key × PV)) (kvs : List (Key × V)) (ks : List Key) (vs : List PV) (acc : List (Key × V)), kvs.map (·.1) = r.map (·.1) → Reps K F (r.map (·.2)) (kvs.map (·.2)) → ∀ ws : List V, acc = ks.zip ws → ks.length = ws.length → ks.Nodup → Reps K F vs ws →
    ∃ ks' vs' ws', dmk r ks vs = .dK ks' vs' ∧ mergeK acc kvs = ks'.zip ws' ∧ ks'.length = ws'.length ∧ ks'.Nodup ∧ Reps K F vs' ws'
  | [], kvs, ks, vs, acc, h1, h2, ws, ha, hl, nd, rr => by
    subst ha
    have : kvs = [] := by simpa using h1
    subst this
    exact ⟨ks, vs, ws, rfl, rfl, hl, nd, rr⟩
  | q :: r, kvs, ks, vs, acc, h1, h2, ws, ha, hl, nd, rr => by
    subst ha
    cases kvs with
    | nil => simp at h1
    | cons kv kvs =>
      simp only [List.map_cons, List.cons.injEq] at h1
      obtain ⟨x, r', e2, h3, h4⟩ := (show Reps K F (q.2 :: r.map (·.2)) (kv.2 :: kvs.map (·.2)) from h2)
      cases e2
      obtain ⟨ws1, g1, g2, g3⟩ := put_zip (k := q.1) h3 rr hl nd
      obtain ⟨ks', vs', ws', e1, e3, e4, e5, e6⟩ := dmk_rep r kvs (putKs q.1 ks) (putVs q.1 q.2 ks vs) (putK (ks.zip ws) kv.1 kv.2) h1.2 h4 ws1 (by rw [h1.1]; exact g1) g2 (putKs_nd nd) g3
      exact ⟨ks', vs', ws', e1, e3, e4, e5, e6⟩
section
variable {X : Cx}
theorem cr_dict1 (hc : X.calm = true) : CallR X (.type "dict") (RCof X.K .dict1) := by
  have fin : ∀ {F H : Hp} {r : List (Key × PV)} {kvs : List (Key × V)} {Q : VK} {l : List PV}, Same F H → (∀ v H', ResR X.K F H true (dmk r [] []) v H' → Q v H') → kvs.map (·.1) = r.map (·.1) → Reps X.K F (r.map (·.2)) (kvs.map (·.2)) → ∀ p, H p = none → Q (.ref p) (upd H p (.dK (mergeK [] kvs))) := fun {F H r kvs Q l} e q g2 g3 p hp => by
    obtain ⟨ks', vs', ws', e1, e2, e3, e4, e5⟩ := dmk_rep r kvs [] [] [] g2 g3 [] rfl rfl List.nodup_nil .nil
    refine q _ _ (.inr (.inl ⟨p, _, hp, rfl, rfl, ?_⟩))
    rw [e1, e2]
    exact ⟨ws', upd_same, e3, e4, e5⟩
  refine fun pins s σ H xs us Q I rr h => ?_
  obtain ⟨x, F, p, r, rfl, e, h1, ho, q⟩ := rOp_one h (len1 rfl fun a b c => by cases a <;> rfl)
  simp only [opSem] at ho
  unfold dict1P at ho
  split at ho
  · cases ho
  · rename_i l hl
    cases hl
    split at ho
    · obtain ⟨r', hr', rfl⟩ := Option.map_eq_some_iff.mp ho
      obtain ⟨c, xs, o, rfl, hc1, hd, rc⟩ := h1
      obtain ⟨ps, kvs, rfl, g1, g2, g3⟩ := pairsK_ok e hr' rc
      exact call_dictT hc pins s σ H _ us Q I rr ⟨c, o, ps, kvs, rfl, e _ _ hc1, hd, g1, fin (l := l) e q g2 g3⟩
    · cases ho
  · rename_i l hl
    cases hl
    split at ho
    · obtain ⟨r', hr', rfl⟩ := Option.map_eq_some_iff.mp ho
      obtain ⟨c, xs, rfl, hc1, rc⟩ := h1
      obtain ⟨ps, kvs, rfl, g1, g2, g3⟩ := pairsK_ok e hr' rc
      exact call_dictP hc pins s σ H _ us Q I rr ⟨c, ps, kvs, rfl, hc1.sql, g1, fin (l := l) e q g2 g3⟩
    · cases ho
  · cases ho
end
section
variable {C : Cb} {Φ : Nat → List LV → CR} {W : WX} {X : Cx} {a : Expr} {ia : Arg} {pos p : Pos}
theorem boot_dict : bootBuiltins "dict" = some (.type "dict") := by decide +kernel
theorem f_tupleX (o : XO X C) (hg : Gl X "tuple") (hm : X.mg "tuple" = none) (ha : PE X a (tA1 C Φ W ia)) (he : starEach [a] X.env = (false, eval a X.env) :: starEach [] X.env := by rfl) : PE X (.Call (.Name "tuple" p) [a] [] pos) (tO C Φ W .tupleX [ia]) := o_ty (cc o cr_tupleX) hg hm PyProof.Rows.boot_tuple (as1 ha he) (by decide) (by decide) he rfl
theorem f_dict (o : XC X C) (hg : Gl X "dict") (hm : X.mg "dict" = none) (ha : PE X a (tA1 C Φ W ia)) (he : starEach [a] X.env = (false, eval a X.env) :: starEach [] X.env := by rfl) : PE X (.Call (.Name "dict" p) [a] [] pos) (tO C Φ W .dict1 [ia]) := o_ty (cc o.toXO (cr_dict1 o.calm)) hg hm boot_dict (as1 ha he) (by decide) (by decide) he rfl
end
end Br
set_option maxHeartbeats 1000000
/-! BrP: laws of the evaluator, for proofs about what a def computes. -/
namespace Br
open PySem PySem.Spec PyProof.Rows L2

/-! evaluation in order: what stands behind waits, by names -/
def ifE {α : Type} (t : Bool) (f g : Env → ER α) (ρ : Env) : ER α := match t with
  | true => f ρ
  | false => g ρ
theorem ifE_t {α : Type} (f g : Env → ER α) (ρ : Env) : ifE true f g ρ = f ρ := rfl
theorem ifE_f {α : Type} (f g : Env → ER α) (ρ : Env) : ifE false f g ρ = g ρ := rfl
def ifS (t : Bool) (f g : Env → SO) (ρ : Env) : SO := match t with
  | true => f ρ
  | false => g ρ
theorem ifS_t (f g : Env → SO) (ρ : Env) : ifS true f g ρ = f ρ := rfl
theorem ifS_f (f g : Env → SO) (ρ : Env) : ifS false f g ρ = g ρ := rfl
def okE {α : Type} (a : α) (ρ : Env) : ER α := .ok a ρ
theorem okE_eq {α : Type} (a : α) (ρ : Env) : okE a ρ = .ok a ρ := rfl
section
variable (Φ : Nat → List LV → CR) (n : Nat)
def kOp (o : Op) (avs : List AV) (ρ : Env) : ER PV := ER.of ((AV.pvs ρ avs).bind (opX o)) ρ
def kVal (p : PV) (ρ : Env) : ER AV := .ok (.val p) ρ
def kCons (av : AV) (avs : List AV) (ρ : Env) : ER (List AV) := .ok (av :: avs) ρ
def kAs (as : List Arg) (av : AV) (ρ : Env) : ER (List AV) := (evAs Φ as ρ).bind (kCons av)
def kConsE (p : PV) (ps : List PV) (ρ : Env) : ER (List PV) := .ok (p :: ps) ρ
def kEs (es : List Ex) (p : PV) (ρ : Env) : ER (List PV) := (evEs Φ es ρ).bind (kConsE p)
def kTup (ps : List PV) (ρ : Env) : ER PV := if ps.length ≤ LIM then .ok (.tup ps) ρ else .st
def kLst (ps : List PV) (ρ : Env) : ER PV := if ps.length ≤ LIM then .ok (.lst ps) ρ else .st
def kCall (j : Nat) (avs : List AV) (ρ : Env) : ER PV := froE (callE (Φ j) avs ρ)
def kMth2 (o : Op) (av : AV) (avs : List AV) (ρ : Env) : ER PV := ER.of ((AV.pvs ρ (av :: avs)).bind (opSem o)) ρ
def kMth (o : Op) (as : List Arg) (av : AV) (ρ : Env) : ER PV := if recvOk o (av.pv ρ) = true then (evAs Φ as ρ).bind (kMth2 o av) else .st
def kAnd (b : Ex) (p : PV) (ρ : Env) : ER PV := match p with
  | .bl t => ifE t (evE Φ b) (okE (.bl false)) ρ
  | _ => .st
def kOr (b : Ex) (p : PV) (ρ : Env) : ER PV := match p with
  | .bl t => ifE t (okE (.bl true)) (evE Φ b) ρ
  | _ => .st
def kNot (p : PV) (ρ : Env) : ER PV := match p with
  | .bl t => .ok (.bl (!t)) ρ
  | _ => .st
def kIte (a b : Ex) (t : Bool) (ρ : Env) : ER PV := ifE t (evE Φ a) (evE Φ b) ρ
def kCh4 (o2 : Op) (q r : PV) (ρ : Env) : ER PV := ER.of (opSem o2 [q, r]) ρ
def kCh3 (o2 : Op) (c : Ex) (q : PV) (ρ : Env) : ER PV := (evE Φ c ρ).bind (kCh4 o2 q)
def kCh2b (o2 : Op) (c : Ex) (q : PV) (r : Option PV) (ρ : Env) : ER PV := match r with
  | some (.bl t) => ifE t (kCh3 Φ o2 c q) (okE (.bl false)) ρ
  | _ => .st
def kCh2 (o1 o2 : Op) (c : Ex) (p q : PV) (ρ : Env) : ER PV := kCh2b Φ o2 c q (opSem o1 [p, q]) ρ
def kCh1 (o1 o2 : Op) (b c : Ex) (p : PV) (ρ : Env) : ER PV := (evE Φ b ρ).bind (kCh2 Φ o1 o2 c p)
def kS3 (av : AV) (i : Int) (q : PV) (ρ : Env) : ER PV := match q with
  | .int j => ER.of ((av.pv ρ).bind fun x => slcP true true [x.dn, .int i, .int j]) ρ
  | _ => .st
def kS2 (hi : Ex) (av : AV) (p : PV) (ρ : Env) : ER PV := match p with
  | .int i => (evE Φ hi ρ).bind (kS3 av i)
  | _ => .st
def kS1 (lo hi : Ex) (av : AV) (ρ : Env) : ER PV := (evE Φ lo ρ).bind (kS2 Φ hi av)
def kC6 (vs : List Nat) (y : PV) (ρ : Env) : ER (Option PV) := .ok (some y) (wipeE ρ vs)
def kC5 (vs : List Nat) (ρ : Env) : ER (Option PV) := .ok none (wipeE ρ vs)
def kC4 (vs : List Nat) (e : Ex) (ρ : Env) : ER (Option PV) := (evE Φ e ρ).bind (kC6 vs)
def kC3 (vs : List Nat) (e : Ex) (b : Bool) (ρ : Env) : ER (Option PV) := ifE b (kC4 Φ vs e) (kC5 vs) ρ
def kC0 (c : List Tst) (vs : List Nat) (e : Ex) (r : Option Env) : ER (Option PV) := match r with
  | some ρ => (evTs Φ c ρ).bind (kC3 Φ vs e)
  | none => .st
def cF (t : Tg) (vs : List Nat) (c : List Tst) (e : Ex) (x : PV) (ρ : Env) : ER (Option PV) := kC0 Φ c vs e (t.bind x ρ)
def kC2 (ρ1 : Env) (vs : List Nat) (ys : List PV) (ρ6 : Env) : ER PV := .ok (.lst ys) (backE ρ1 ρ6 vs)
def kC1 (t : Tg) (vs : List Nat) (c : List Tst) (e : Ex) (xs : List PV) (ρ1 : Env) : ER PV := if xs.length ≤ LIM then (compL (cF Φ t vs c e) xs (wipeE ρ1 vs)).bind (kC2 ρ1 vs) else .st
def kTand (b : Tst) (t : Bool) (ρ : Env) : ER Bool := ifE t (evT Φ b) (okE false) ρ
def kTor (b : Tst) (t : Bool) (ρ : Env) : ER Bool := ifE t (okE true) (evT Φ b) ρ
def kTnot (t : Bool) (ρ : Env) : ER Bool := .ok (!t) ρ
def kTe (p : PV) (ρ : Env) : ER Bool := match p with
  | .bl b => .ok b ρ
  | _ => .st
def kSeq (p : PV) (ρ : Env) : ER (List PV) := ER.of (seqOf p) ρ
def kR1 (p : PV) (ρ : Env) : ER (List PV) := match p with
  | .int j => if rngOk j then .ok (rngP 0 j) ρ else .st
  | _ => .st
def kR3 (p q : PV) (ρ : Env) : ER (List PV) := match p, q with
  | .int i, .int j => if rngOk i ∧ rngOk j then .ok (rngP i j) ρ else .st
  | _, _ => .st
def kR2 (b : Ex) (p : PV) (ρ : Env) : ER (List PV) := (evE Φ b ρ).bind (kR3 p)
def kEn (p : PV) (ρ : Env) : ER (List PV) := match p with
  | .lst l => .ok (enumP l) ρ
  | _ => .st
def kZ2 (p q : PV) (ρ : Env) : ER (List PV) := match p.dn, q.dn with
  | .lst l, .lst m => .ok (zipP l m) ρ
  | .tup l, .tup m => .ok (zipP l m) ρ
  | .lst l, .tup m => .ok (zipP l m) ρ
  | .tup l, .lst m => .ok (zipP l m) ρ
  | _, _ => .st
def kZ1 (b : Ex) (p : PV) (ρ : Env) : ER (List PV) := (evE Φ b ρ).bind (kZ2 p)
def kRv (p : PV) (ρ : Env) : ER (List PV) := ER.of ((seqOf p).map List.reverse) ρ
def kOwn (p : PV) (ρ : Env) : ER LV := .ok (.own p) ρ
def kFro (p : PV) (ρ : Env) : ER LV := .ok (.fro p) ρ
def kOwnV (o : Op) (p : PV) (ρ : Env) : ER LV := .ok (ownV o p) ρ
def kCallL (j : Nat) (avs : List AV) (ρ : Env) : ER LV := callE (Φ j) avs ρ
def kPopE (i : Nat) (p : PV) (ρ : Env) : ER PV := putE i (popP (at' ρ i) p) ρ
def kSet (i : Nat) (l : LV) (ρ : Env) : SO := .nx (ρ.set i (some l))
def kUnp (t : Tg) (p : PV) (ρ : Env) : SO := SO.of (t.bind p ρ)
def kPar (is : List Nat) (ps : List PV) (ρ : Env) : SO := SO.of (parE is ps ρ)
def kSI2 (i : Nat) (p q : PV) (ρ : Env) : SO := match (at' ρ i).bind fun l => setIxP l q p with
  | some l => .nx (ρ.set i (some l))
  | none => .st
def kSI1 (i : Nat) (k : Ex) (p : PV) (ρ : Env) : SO := if (at' ρ i).isSome = true then (evE Φ k ρ).so (kSI2 i p) else .st
def kApp (i : Nat) (p : PV) (ρ : Env) : SO := match at' ρ i with
  | some (.own (.lst l)) => if l.length < LIM then .nx (ρ.set i (some (.own (.lst (l ++ [p]))))) else .st
  | _ => .st
def kExt (i : Nat) (p : PV) (ρ : Env) : SO := match at' ρ i, p with
  | some (.own (.lst l)), .lst m => if l.length + m.length ≤ LIM then .nx (ρ.set i (some (.own (.lst (l ++ m))))) else .st
  | _, _ => .st
def kPopA (i : Nat) (p : PV) (ρ : Env) : SO := match at' ρ i, p with
  | some (.own (.lst l)), .int j => if 0 ≤ j ∧ j < l.length ∧ j < LIM then .nx (ρ.set i (some (.own (.lst (l.eraseIdx j.toNat))))) else .st
  | _, _ => .st
def kIns2 (i : Nat) (q p : PV) (ρ : Env) : SO := match at' ρ i, q with
  | some (.own (.lst l)), .int j => if l.length < LIM ∧ 0 ≤ j ∧ j < LIM then .nx (ρ.set i (some (.own (.lst (l.take j.toNat ++ p :: l.drop j.toNat))))) else .st
  | _, _ => .st
def kIns1 (i : Nat) (e : Ex) (q : PV) (ρ : Env) : SO := (evE Φ e ρ).so (kIns2 i q)
def kEx (_ : PV) (ρ : Env) : SO := .nx ρ
def kRet (l : LV) (ρ : Env) : SO := .rt l ρ
def kIf (a b : List St) (t : Bool) (ρ : Env) : SO := ifS t (exSs Φ n a) (exSs Φ n b) ρ
def kFor (t : Tg) (b : List St) (xs : List PV) (ρ : Env) : SO := forL (bindS (exSs Φ n b) t) xs ρ
def kT4 (j : Nat) (avs : List AV) (l : LV) (bvs : List AV) (ρ : Env) : ER LV := callT (Φ j) avs l bvs ρ
def kT3 (j : Nat) (avs : List AV) (bs : List Arg) (l : LV) (ρ : Env) : ER LV := (evAs Φ bs ρ).bind (kT4 Φ j avs l)
def kT2 (j k : Nat) (avs : List AV) (bs : List Arg) (cvs : List AV) (ρ : Env) : ER LV := (callE (Φ k) cvs ρ).bind (kT3 Φ j avs bs)
def kT1 (j k : Nat) (cs bs : List Arg) (avs : List AV) (ρ : Env) : ER LV := (evAs Φ cs ρ).bind (kT2 Φ j k avs bs)
variable {Φ n}
theorem v_app (o : Op) (as : List Arg) (ρ : Env) : evE Φ (.app o as) ρ = (evAs Φ as ρ).bind (kOp o) := by rw [evE]; rfl
theorem v_mth (o : Op) (a : Arg) (as : List Arg) (ρ : Env) : evE Φ (.mth o a as) ρ = (evA Φ a ρ).bind (kMth Φ o as) := by rw [evE]; rfl
theorem v_tup (es : List Ex) (ρ : Env) : evE Φ (.tup es) ρ = (evEs Φ es ρ).bind kTup := by rw [evE]; rfl
theorem v_lst (es : List Ex) (ρ : Env) : evE Φ (.lst es) ρ = (evEs Φ es ρ).bind kLst := by rw [evE]; rfl
theorem v_cst (c : PV) (ρ : Env) : evE Φ (.cst c) ρ = .ok c ρ := by rw [evE]
theorem v_dnew (ρ : Env) : evE Φ .dnew ρ = .ok (.dK [] []) ρ := by rw [evE]
theorem v_var (i : Nat) (ρ : Env) : evE Φ (.var i) ρ = match ρ[i]? with
    | some (some (.fro p)) => .ok p ρ
    | some (some (.own p)) => .ok p (ρ.set i (some (.fro p)))
    | _ => .st := by rw [evE]; try rfl
theorem putE_some (i : Nat) (x : PV) (l : LV) (ρ : Env) : putE i (some (x, l)) ρ = .ok x (ρ.set i (some l)) := by rw [putE]
theorem putE_none (i : Nat) (ρ : Env) : putE i none ρ = .st := by rw [putE]
theorem kPopE_eq (i : Nat) (p : PV) (ρ : Env) : kPopE i p ρ = putE i (popP (at' ρ i) p) ρ := by rw [kPopE]
theorem v_dispV (i j : Nat) (ρ : Env) : evE Φ (.dispV i j) ρ = ER.of (dispP ρ i j) ρ := by rw [evE]
theorem l_dispV' (i j : Nat) (ρ : Env) : evL Φ (.dispV i j) ρ = (ER.of (dispP ρ i j) ρ).bind kOwn := rfl
theorem dispP_eq (ρ : Env) (i j : Nat) (k q : PV) (h : at' ρ i = some (.fro k)) (h2 : at' ρ j = some (.fro q)) : dispP ρ i j = (keyP k).map fun key => .dK [key] [q] := by
  unfold dispP
  rw [h, h2]
theorem v_popE (i : Nat) (e : Ex) (ρ : Env) : evE Φ (.popE i e) ρ = if ownL ρ i = true then (evE Φ e ρ).bind (kPopE i) else .st := by rw [evE]; rfl
theorem v_popL (i : Nat) (ρ : Env) : evE Φ (.popL i) ρ = putE i (poplP (at' ρ i)) ρ := by rw [evE]
theorem v_call (j : Nat) (as : List Arg) (ρ : Env) : evE Φ (.call j as) ρ = (evAs Φ as ρ).bind (kCall Φ j) := by rw [evE]; rfl
theorem v_and (a b : Ex) (ρ : Env) : evE Φ (.and a b) ρ = (evE Φ a ρ).bind (kAnd Φ b) := by
  rw [evE]; congr 1; funext p ρ; cases p with
  | bl t => cases t <;> rfl
  | _ => rfl
theorem v_or (a b : Ex) (ρ : Env) : evE Φ (.or a b) ρ = (evE Φ a ρ).bind (kOr Φ b) := by
  rw [evE]; congr 1; funext p ρ; cases p with
  | bl t => cases t <;> rfl
  | _ => rfl
theorem v_not (a : Ex) (ρ : Env) : evE Φ (.not a) ρ = (evE Φ a ρ).bind kNot := by rw [evE]; congr 1
theorem v_ite (c : Tst) (a b : Ex) (ρ : Env) : evE Φ (.ite c a b) ρ = (evT Φ c ρ).bind (kIte Φ a b) := by
  rw [evE]; congr 1; funext t ρ; cases t <;> rfl
theorem v_chain (o1 o2 : Op) (a b c : Ex) (ρ : Env) : evE Φ (.chain o1 o2 a b c) ρ = (evE Φ a ρ).bind (kCh1 Φ o1 o2 b c) := by
  rw [evE]; congr 1; funext p ρ; unfold kCh1; congr 1; funext q ρ; unfold kCh2 kCh2b
  cases opSem o1 [p, q] with
  | none => rfl
  | some r => cases r with
    | bl t => cases t <;> rfl
    | _ => rfl
theorem v_sl2 (a : Arg) (lo hi : Ex) (ρ : Env) : evE Φ (.sl2 a lo hi) ρ = (evA Φ a ρ).bind (kS1 Φ lo hi) := by
  rw [evE]; congr 1
theorem v_comp (s : Src) (t : Tg) (vs : List Nat) (c : List Tst) (e : Ex) (ρ : Env) : evE Φ (.comp s t vs c e) ρ = (evSrc Φ s ρ).bind (kC1 Φ t vs c e) := by
  rw [evE]; congr 1; funext xs ρ1; unfold kC1
  have h : (fun x ρ2 => match t.bind x ρ2 with
        | some ρ3 => (evTs Φ c ρ3).bind fun b ρ4 => if b = true then (evE Φ e ρ4).bind fun y ρ5 => .ok (some y) (wipeE ρ5 vs) else .ok none (wipeE ρ4 vs)
        | none => .st : PV → Env → ER (Option PV)) = cF Φ t vs c e := by
    funext x ρ2
    unfold cF kC0
    cases t.bind x ρ2 with
    | none => rfl
    | some ρ3 =>
      dsimp only
      congr 1
      funext b ρ4
      cases b <;> rfl
  exact congrArg (fun f => if xs.length ≤ LIM then (compL f xs (wipeE ρ1 vs)).bind (kC2 ρ1 vs) else .st) h
theorem v_aref (i : Nat) (ρ : Env) : evA Φ (.ref i) ρ = match ρ[i]? with
    | some (some (.fro p)) => .ok (.val p) ρ
    | some (some _) => .ok (.ref i) ρ
    | _ => .st := by rw [evA]; try rfl
theorem v_aval (e : Ex) (ρ : Env) : evA Φ (.val e) ρ = (evE Φ e ρ).bind kVal := by rw [evA]; rfl
theorem v_as0 (ρ : Env) : evAs Φ [] ρ = .ok [] ρ := by rw [evAs]
theorem v_as (a : Arg) (as : List Arg) (ρ : Env) : evAs Φ (a :: as) ρ = (evA Φ a ρ).bind (kAs Φ as) := by rw [evAs]; rfl
theorem v_es0 (ρ : Env) : evEs Φ [] ρ = .ok [] ρ := by rw [evEs]
theorem v_es (a : Ex) (as : List Ex) (ρ : Env) : evEs Φ (a :: as) ρ = (evE Φ a ρ).bind (kEs Φ as) := by rw [evEs]; rfl
theorem v_tand (a b : Tst) (ρ : Env) : evT Φ (.and a b) ρ = (evT Φ a ρ).bind (kTand Φ b) := by
  rw [evT]; congr 1; funext t ρ; cases t <;> rfl
theorem v_tor (a b : Tst) (ρ : Env) : evT Φ (.or a b) ρ = (evT Φ a ρ).bind (kTor Φ b) := by
  rw [evT]; congr 1; funext t ρ; cases t <;> rfl
theorem v_tnot (a : Tst) (ρ : Env) : evT Φ (.not a) ρ = (evT Φ a ρ).bind kTnot := by rw [evT]; rfl
theorem v_te (x : Ex) (ρ : Env) : evT Φ (.e x) ρ = (evE Φ x ρ).bind kTe := by
  rw [evT]; congr 1
theorem v_ts0 (ρ : Env) : evTs Φ [] ρ = .ok true ρ := by rw [evTs]
theorem v_ts1 (c : Tst) (ρ : Env) : evTs Φ [c] ρ = evT Φ c ρ := by rw [evTs]
theorem v_seq (e : Ex) (ρ : Env) : evSrc Φ (.seq e) ρ = (evE Φ e ρ).bind kSeq := by rw [evSrc]; rfl
theorem v_rng1 (a : Ex) (ρ : Env) : evSrc Φ (.rng1 a) ρ = (evE Φ a ρ).bind kR1 := by rw [evSrc]; congr 1
theorem v_rng2 (a b : Ex) (ρ : Env) : evSrc Φ (.rng2 a b) ρ = (evE Φ a ρ).bind (kR2 Φ b) := by
  rw [evSrc]; congr 1
theorem v_enum (a : Ex) (ρ : Env) : evSrc Φ (.enum a) ρ = (evE Φ a ρ).bind kEn := by rw [evSrc]; congr 1
theorem v_zip (a b : Ex) (ρ : Env) : evSrc Φ (.zip a b) ρ = (evE Φ a ρ).bind (kZ1 Φ b) := by rw [evSrc]; congr 1
/-! calls with a temporary of our own -/
theorem l_callT' (j k : Nat) (as cs bs : List Arg) (ρ : Env) : evL Φ (.callT j as k cs bs) ρ = (evAs Φ as ρ).bind (kT1 Φ j k cs bs) := rfl
theorem ER.assoc {α β γ : Type} (r : ER α) (f : α → Env → ER β) (g : β → Env → ER γ) : (r.bind f).bind g = r.bind fun a ρ => (f a ρ).bind g := by cases r <;> rfl
theorem v_callT (j k : Nat) (as cs bs : List Arg) (ρ : Env) : evE Φ (.callT j as k cs bs) ρ = froE (evL Φ (.callT j as k cs bs) ρ) := by
  rw [l_callT', evE]
  unfold froE
  rw [ER.assoc]
  congr 1
  funext avs ρ1
  unfold kT1
  rw [ER.assoc]
  congr 1
  funext cvs ρ2
  unfold kT2
  rw [ER.assoc]
  congr 1
  funext l ρ3
  unfold kT3
  rw [ER.assoc]
  rfl
theorem kT4_eq (j : Nat) (avs : List AV) (l : LV) (bvs : List AV) (ρ : Env) : kT4 Φ j avs l bvs ρ = dropT (callE (Φ j) (avs.map AV.sh ++ .ref 0 :: bvs.map AV.sh) (some l :: ρ)) := by rfl
theorem dropT_ok (l : LV) (x : Option LV) (ρ : Env) : dropT (.ok l (x :: ρ)) = .ok l ρ := by rfl
theorem dropT_ex (c : Str) (x : Option LV) (ρ : Env) : dropT (.ex c (x :: ρ)) = .ex c ρ := by rfl
theorem dropT_st : dropT .st = .st := by rfl
theorem sh_val (p : PV) : AV.sh (.val p) = .val p := by rfl
theorem sh_ref (i : Nat) : AV.sh (.ref i) = .ref (i + 1) := by rfl
def kXt (ps : List PV) (ρ : Env) : ER PV := if ps.length ≤ LIM then .ok (.xt ps) ρ else .st
theorem v_xtup (es : List Ex) (ρ : Env) : evE Φ (.xtup es) ρ = (evEs Φ es ρ).bind kXt := by rw [evE]; rfl
theorem l_xtup (i : List Ex) (ρ : Env) : evL Φ (.xtup i) ρ = (evE Φ (.xtup i) ρ).bind kFro := rfl
theorem v_rev (a : Ex) (ρ : Env) : evSrc Φ (.rev a) ρ = (evE Φ a ρ).bind kRv := by rw [evSrc]; rfl
/-! values of our own -/
theorem l_app (o : Op) (as : List Arg) (ρ : Env) : evL Φ (.app o as) ρ = (evE Φ (.app o as) ρ).bind (kOwnV o) := rfl
theorem l_mth' (o : Op) (a : Arg) (as : List Arg) (ρ : Env) : evL Φ (.mth o a as) ρ = (evE Φ (.mth o a as) ρ).bind (kOwnV o) := rfl
theorem l_lst' (es : List Ex) (ρ : Env) : evL Φ (.lst es) ρ = (evE Φ (.lst es) ρ).bind kOwn := rfl
theorem l_dnew' (ρ : Env) : evL Φ .dnew ρ = .ok (.own (.dK [] [])) ρ := rfl
theorem l_call' (j : Nat) (as : List Arg) (ρ : Env) : evL Φ (.call j as) ρ = (evAs Φ as ρ).bind (kCallL Φ j) := rfl
theorem l_comp' (s : Src) (t : Tg) (vs : List Nat) (c : List Tst) (e : Ex) (ρ : Env) : evL Φ (.comp s t vs c e) ρ = (evE Φ (.comp s t vs c e) ρ).bind kOwn := rfl
theorem l_var (i : Nat) (ρ : Env) : evL Φ (.var i) ρ = (evE Φ (.var i) ρ).bind kFro := rfl
theorem l_cst (i : PV) (ρ : Env) : evL Φ (.cst i) ρ = .ok (.fro i) ρ := by
  show (evE Φ (.cst i) ρ).bind kFro = _
  rw [v_cst]; rfl
theorem l_tup (i : List Ex) (ρ : Env) : evL Φ (.tup i) ρ = (evE Φ (.tup i) ρ).bind kFro := rfl
theorem l_and (a b : Ex) (ρ : Env) : evL Φ (.and a b) ρ = (evE Φ (.and a b) ρ).bind kFro := rfl
theorem l_or (a b : Ex) (ρ : Env) : evL Φ (.or a b) ρ = (evE Φ (.or a b) ρ).bind kFro := rfl
theorem l_popE (i : Nat) (e : Ex) (ρ : Env) : evL Φ (.popE i e) ρ = (evE Φ (.popE i e) ρ).bind kFro := rfl
theorem l_popL (i : Nat) (ρ : Env) : evL Φ (.popL i) ρ = (evE Φ (.popL i) ρ).bind kFro := rfl
theorem l_not (a : Ex) (ρ : Env) : evL Φ (.not a) ρ = (evE Φ (.not a) ρ).bind kFro := rfl
theorem l_ite (c : Tst) (a b : Ex) (ρ : Env) : evL Φ (.ite c a b) ρ = (evE Φ (.ite c a b) ρ).bind kFro := rfl
theorem l_chain (o1 o2 : Op) (a b c : Ex) (ρ : Env) : evL Φ (.chain o1 o2 a b c) ρ = (evE Φ (.chain o1 o2 a b c) ρ).bind kFro := rfl
theorem l_sl2 (a : Arg) (lo hi : Ex) (ρ : Env) : evL Φ (.sl2 a lo hi) ρ = (evE Φ (.sl2 a lo hi) ρ).bind kFro := rfl
/-! statements -/
theorem x_set (i : Nat) (e : Ex) (ρ : Env) : exS Φ n (.set i e) ρ = (evL Φ e ρ).so (kSet i) := by rw [exS]; rfl
theorem x_unp (t : Tg) (e : Ex) (ρ : Env) : exS Φ n (.unp t e) ρ = (evE Φ e ρ).so (kUnp t) := by rw [exS]; rfl
theorem x_par (is : List Nat) (es : List Ex) (ρ : Env) : exS Φ n (.par is es) ρ = (evEs Φ es ρ).so (kPar is) := by rw [exS]; rfl
theorem x_setIx (i : Nat) (k e : Ex) (ρ : Env) : exS Φ n (.setIx i k e) ρ = (evE Φ e ρ).so (kSI1 Φ i k) := by rw [exS]; rfl
theorem x_app (i : Nat) (e : Ex) (ρ : Env) : exS Φ n (.app i e) ρ = if ownL ρ i = true then (evE Φ e ρ).so (kApp i) else .st := by rw [exS]; rfl
theorem x_ext (i : Nat) (e : Ex) (ρ : Env) : exS Φ n (.ext i e) ρ = if ownL ρ i = true then (evE Φ e ρ).so (kExt i) else .st := by rw [exS]; rfl
theorem x_popA (i : Nat) (e : Ex) (ρ : Env) : exS Φ n (.popA i e) ρ = if ownL ρ i = true then (evE Φ e ρ).so (kPopA i) else .st := by rw [exS]; rfl
theorem x_insA (i : Nat) (k e : Ex) (ρ : Env) : exS Φ n (.insA i k e) ρ = if ownL ρ i = true then (evE Φ k ρ).so (kIns1 Φ i e) else .st := by rw [exS]; rfl
theorem x_ex (e : Ex) (ρ : Env) : exS Φ n (.ex e) ρ = (evE Φ e ρ).so kEx := by rw [exS]; rfl
theorem x_ret (e : Ex) (ρ : Env) : exS Φ n (.ret e) ρ = (evL Φ e ρ).so kRet := by rw [exS]; rfl
theorem x_retV (i : Nat) (ρ : Env) : exS Φ n (.retV i) ρ = match at' ρ i with
    | some l => .rt l (ρ.set i none)
    | none => .st := by rw [exS]; try rfl
theorem x_retN (ρ : Env) : exS Φ n .retN ρ = .rt (.fro .non) ρ := by rw [exS]
theorem x_if (c : Tst) (a b : List St) (ρ : Env) : exS Φ n (.ite c a b) ρ = (evT Φ c ρ).so (kIf Φ n a b) := by
  rw [exS]; congr 1; funext t ρ; cases t <;> rfl
theorem x_whl (c : Tst) (b : List St) (ρ : Env) : exS Φ n (.whl c b) ρ = whlL (evT Φ c) (exSs Φ n b) n ρ := by rw [exS]
theorem x_for (s : Src) (t : Tg) (b : List St) (ρ : Env) (h : ∀ i it, s ≠ .lock i it) : exS Φ n (.for s t b) ρ = (evSrc Φ s ρ).so (kFor Φ n t b) := by
  cases s with
  | lock i it => exact absurd rfl (h i it)
  | _ => rw [exS] <;> first | rfl | (intro i it z; cases z)
def kLock (i : Nat) (it : Bool) (t : Tg) (b : List St) (ρ : Env) (l : Option LV) : SO := match l with
  | some (.own (.dK ks vs)) => lockR i (.own (.dK ks vs)) (forL (bindS (exSs Φ n b) t) (if it = true then itemsP ks vs else keysP ks) (ρ.set i (some (.fro (.dK ks vs)))))
  | _ => .st
def lockV (i : Nat) (l : LV) (v : Option LV) (ρ : Env) : SO := match v with
  | some w => .rt w ((thin ρ).set i (some l))
  | none => .st
theorem x_lock (i : Nat) (it : Bool) (t : Tg) (b : List St) (ρ : Env) : exS Φ n (.for (.lock i it) t b) ρ = kLock (Φ := Φ) (n := n) i it t b ρ (at' ρ i) := by
  rw [exS]
  unfold kLock
  rfl
theorem kLock_d (i : Nat) (it : Bool) (t : Tg) (b : List St) (ρ : Env) (ks : List Key) (vs : List PV) : kLock (Φ := Φ) (n := n) i it t b ρ (some (.own (.dK ks vs))) = lockR i (.own (.dK ks vs)) (forL (bindS (exSs Φ n b) t) (if it = true then itemsP ks vs else keysP ks) (ρ.set i (some (.fro (.dK ks vs))))) := rfl
theorem lockR_nx (i : Nat) (l : LV) (ρ : Env) : lockR i l (.nx ρ) = .nx ((thin ρ).set i (some l)) := rfl
theorem lockR_rt (i : Nat) (l v : LV) (ρ : Env) : lockR i l (.rt v ρ) = lockV i l (thinL v) ρ := by
  unfold lockR lockV
  rfl
theorem lockV_s (i : Nat) (l v : LV) (ρ : Env) : lockV i l (some v) ρ = .rt v ((thin ρ).set i (some l)) := rfl
theorem thin_0 : thin [] = [] := rfl
theorem thin_c (o : Option LV) (ρ : Env) : thin (o :: ρ) = thinO o :: thin ρ := rfl
theorem thinO_n : thinO none = none := rfl
theorem thinO_s (l : LV) : thinO (some l) = thinL l := rfl
theorem thinL_f (p : PV) : thinL (.fro p) = if p.noD = true then some (.fro p) else none := rfl
theorem thinL_l (l : List PV) : thinL (.own (.lst l)) = if PV.noDs l = true then some (.own (.lst l)) else none := rfl
theorem thinL_d (ks : List Key) (l : List PV) : thinL (.own (.dK ks l)) = if PV.noDs l = true then some (.own (.dK ks l)) else none := rfl
theorem thinL_t (ks : List (List Key)) (l : List PV) : thinL (.own (.dT ks l)) = if PV.noDs l = true then some (.own (.dT ks l)) else none := rfl
theorem noD_n : PV.noD .non = true := rfl
theorem noD_b (b : Bool) : PV.noD (.bl b) = true := rfl
theorem noD_i (i : Int) : PV.noD (.int i) = true := rfl
theorem noD_s (i : Str) : PV.noD (.str i) = true := rfl
theorem noD_e (i : Str) : PV.noD (.exc i) = true := rfl
theorem noD_t (l : List PV) : PV.noD (.tup l) = PV.noDs l := by rw [PV.noD]
theorem noD_x (l : List PV) : PV.noD (.xt l) = PV.noDs l := by rw [PV.noD]
theorem noD_l (l : List PV) : PV.noD (.lst l) = PV.noDs l := by rw [PV.noD]
theorem noD_d (ks : List Key) (l : List PV) : PV.noD (.dK ks l) = false := by rw [PV.noD]
theorem noDs_0 : PV.noDs [] = true := by rw [PV.noDs]
theorem noDs_c (p : PV) (l : List PV) : PV.noDs (p :: l) = (p.noD && PV.noDs l) := by rw [PV.noDs]
theorem noDs_all : ∀ (l : List PV), PV.noDs l = l.all PV.noD
  | [] => noDs_0
  | p :: l => by rw [noDs_c, noDs_all l, List.all_cons]
theorem noDs_i (l : List Int) : PV.noDs (l.map .int) = true := by
  rw [noDs_all, List.all_map]
  exact List.all_eq_true.mpr fun x _ => rfl
theorem x_brk (ρ : Env) : exS Φ n .brk ρ = .bk ρ := by rw [exS]
theorem x_cont (ρ : Env) : exS Φ n .cont ρ = .ct ρ := by rw [exS]
theorem x_pass (ρ : Env) : exS Φ n .pass ρ = .nx ρ := by rw [exS]
theorem x_try (b : List St) (x : Str) (i : Option Nat) (kn : List Str) (s : List St) (ρ : Env) : exS Φ n (.tryx b x i kn s) ρ = tryK x i kn (exSs Φ n s) (exSs Φ n b ρ) := by rw [exS]
theorem tryK_nx (x : Str) (i : Option Nat) (kn : List Str) (f : Env → SO) (ρ : Env) : tryK x i kn f (.nx ρ) = .nx ρ := rfl
theorem tryK_rt (x : Str) (i : Option Nat) (kn : List Str) (f : Env → SO) (l : LV) (ρ : Env) : tryK x i kn f (.rt l ρ) = .rt l ρ := rfl
theorem tryK_bk (x : Str) (i : Option Nat) (kn : List Str) (f : Env → SO) (ρ : Env) : tryK x i kn f (.bk ρ) = .bk ρ := rfl
theorem tryK_ct (x : Str) (i : Option Nat) (kn : List Str) (f : Env → SO) (ρ : Env) : tryK x i kn f (.ct ρ) = .ct ρ := rfl
theorem tryK_ex (x : Str) (i : Option Nat) (kn : List Str) (f : Env → SO) (c : Str) (ρ : Env) (h : c ∈ kn ∧ x ∈ ("BrimError" : Str) :: kn) (h2 : subX c x = true) : tryK x i kn f (.ex c ρ) = suiteX i (f (setX i c ρ)) := by
  unfold tryK
  dsimp only
  rw [if_pos h, if_pos h2]
theorem tryK_on (x : Str) (i : Option Nat) (kn : List Str) (f : Env → SO) (c : Str) (ρ : Env) (h : c ∈ kn ∧ x ∈ ("BrimError" : Str) :: kn) (h2 : subX c x = false) : tryK x i kn f (.ex c ρ) = .ex c ρ := by
  unfold tryK
  dsimp only
  rw [if_pos h, h2, if_neg Bool.false_ne_true]
theorem isExP_exc {kn cs : List Str} {c : Str} {b : Bool} (h : c ∈ kn ∧ ∀ x ∈ cs, x ∈ ("BrimError" : Str) :: "ValueError" :: kn) (hb : cs.any (subX c) = b) : isExP kn cs [.exc c] = some (.bl b) := by
  unfold isExP
  dsimp only
  rw [if_pos h, hb]
theorem isExP_non {kn cs : List Str} (h : ∀ x ∈ cs, x ∈ ("BrimError" : Str) :: "ValueError" :: kn) : isExP kn cs [.non] = some (.bl false) := by
  unfold isExP
  dsimp only
  rw [if_pos h]
theorem suiteX_nx (i : Option Nat) (ρ : Env) : suiteX i (.nx ρ) = .nx (goneX i ρ) := rfl
theorem suiteX_bk (i : Option Nat) (ρ : Env) : suiteX i (.bk ρ) = .bk (goneX i ρ) := rfl
theorem suiteX_ct (i : Option Nat) (ρ : Env) : suiteX i (.ct ρ) = .ct (goneX i ρ) := rfl
theorem suiteX_rt (i : Option Nat) (l : LV) (ρ : Env) : suiteX i (.rt l ρ) = .rt l ρ := rfl
theorem setX_some (i : Nat) (c : Str) (ρ : Env) : setX (some i) c ρ = ρ.set i (some (.fro (.exc c))) := rfl
theorem setX_none (c : Str) (ρ : Env) : setX none c ρ = ρ := rfl
theorem goneX_some (i : Nat) (ρ : Env) : goneX (some i) ρ = ρ.set i none := rfl
theorem goneX_none (ρ : Env) : goneX none ρ = ρ := rfl
theorem x_raise (c : Str) (ρ : Env) : exS Φ n (.raise c) ρ = .ex c ρ := by rw [exS]
end
theorem dn_non : PV.dn .non = .non := rfl
theorem dn_bl (b : Bool) : PV.dn (.bl b) = .bl b := rfl
theorem dn_int (i : Int) : PV.dn (.int i) = .int i := rfl
theorem dn_str (i : Str) : PV.dn (.str i) = .str i := rfl
theorem dn_ty (i : String) : PV.dn (.ty i) = .ty i := rfl
theorem dn_exc (i : Str) : PV.dn (.exc i) = .exc i := rfl
theorem dn_tup (l : List PV) : PV.dn (.tup l) = .tup l := rfl
theorem dn_xt (l : List PV) : PV.dn (.xt l) = .tup l := rfl
theorem dn_lst (l : List PV) : PV.dn (.lst l) = .lst l := rfl
theorem dn_dK (k : List Key) (l : List PV) : PV.dn (.dK k l) = .dK k l := rfl
theorem dn_dT (k : List (List Key)) (l : List PV) : PV.dn (.dT k l) = .dT k l := rfl
theorem dn_dn (p : PV) : p.dn.dn = p.dn := by cases p <;> rfl
theorem isD_dn (n : Nat) (p : PV) : p.dn.isD n = p.isD n := by
  cases p with
  | xt l => cases n <;> (simp only [PV.dn]; unfold PV.isD; rfl)
  | _ => rfl
theorem toD_dn (p : PV) : p.dn.toD = p.toD := by
  cases p with
  | xt l => simp only [PV.dn]; unfold PV.toD; rfl
  | _ => rfl
theorem eqP_dnl (p q : PV) : eqP p.dn q = eqP p q := by unfold eqP; rw [toD_dn]
theorem eqP_dnr (p q : PV) : eqP p q.dn = eqP p q := by unfold eqP; rw [toD_dn]
theorem opX_raw (o : Op) (ps : List PV) (h : o.raw = true) : opX o ps = opSem o ps := by
  unfold opX
  rw [if_pos h]
theorem opX_dn (o : Op) (ps : List PV) (h : o.raw = false) : opX o ps = opSem o (ps.map PV.dn) := by
  unfold opX
  rw [if_neg (by rw [h]; exact Bool.false_ne_true)]
theorem opX_add (ps : List PV) : opX .add ps = opSem .add (ps.map PV.dn) := rfl
theorem opX_sub (ps : List PV) : opX .sub ps = opSem .sub (ps.map PV.dn) := rfl
theorem opX_mul (ps : List PV) : opX .mul ps = opSem .mul (ps.map PV.dn) := rfl
theorem opX_fdiv (ps : List PV) : opX .fdiv ps = opSem .fdiv (ps.map PV.dn) := rfl
theorem opX_mod (ps : List PV) : opX .mod ps = opSem .mod (ps.map PV.dn) := rfl
theorem opX_pow (ps : List PV) : opX .pow ps = opSem .pow (ps.map PV.dn) := rfl
theorem opX_neg (ps : List PV) : opX .neg ps = opSem .neg (ps.map PV.dn) := rfl
theorem opX_eq (ps : List PV) : opX .eq ps = opSem .eq (ps.map PV.dn) := rfl
theorem opX_ne (ps : List PV) : opX .ne ps = opSem .ne (ps.map PV.dn) := rfl
theorem opX_lt (ps : List PV) : opX .lt ps = opSem .lt (ps.map PV.dn) := rfl
theorem opX_le (ps : List PV) : opX .le ps = opSem .le (ps.map PV.dn) := rfl
theorem opX_gt (ps : List PV) : opX .gt ps = opSem .gt (ps.map PV.dn) := rfl
theorem opX_ge (ps : List PV) : opX .ge ps = opSem .ge (ps.map PV.dn) := rfl
theorem opX_isN (ps : List PV) : opX .isN ps = opSem .isN (ps.map PV.dn) := rfl
theorem opX_isNN (ps : List PV) : opX .isNN ps = opSem .isNN (ps.map PV.dn) := rfl
theorem opX_inn (ps : List PV) : opX .inn ps = opSem .inn (ps.map PV.dn) := rfl
theorem opX_nin (ps : List PV) : opX .nin ps = opSem .nin (ps.map PV.dn) := rfl
theorem opX_len (ps : List PV) : opX .len ps = opSem .len (ps.map PV.dn) := rfl
theorem opX_sum (ps : List PV) : opX .sum ps = opSem .sum (ps.map PV.dn) := rfl
theorem opX_abs (ps : List PV) : opX .abs ps = opSem .abs (ps.map PV.dn) := rfl
theorem opX_int1 (ps : List PV) : opX .int1 ps = opSem .int1 (ps.map PV.dn) := rfl
theorem opX_str1 (ps : List PV) : opX .str1 ps = opSem .str1 (ps.map PV.dn) := rfl
theorem opX_tuple1 (ps : List PV) : opX .tuple1 ps = opSem .tuple1 (ps.map PV.dn) := rfl
theorem opX_list1 (ps : List PV) : opX .list1 ps = opSem .list1 (ps.map PV.dn) := rfl
theorem opX_sorted (ps : List PV) : opX .sorted ps = opSem .sorted (ps.map PV.dn) := rfl
theorem opX_allL (ps : List PV) : opX .allL ps = opSem .allL (ps.map PV.dn) := rfl
theorem opX_anyL (ps : List PV) : opX .anyL ps = opSem .anyL (ps.map PV.dn) := rfl
theorem opX_min2 (ps : List PV) : opX .min2 ps = opSem .min2 (ps.map PV.dn) := rfl
theorem opX_max2 (ps : List PV) : opX .max2 ps = opSem .max2 (ps.map PV.dn) := rfl
theorem opX_minL (ps : List PV) : opX .minL ps = opSem .minL (ps.map PV.dn) := rfl
theorem opX_maxL (ps : List PV) : opX .maxL ps = opSem .maxL (ps.map PV.dn) := rfl
theorem opX_idx (ps : List PV) : opX .idx ps = opSem .idx (ps.map PV.dn) := rfl
theorem opX_rev (ps : List PV) : opX .rev ps = opSem .rev (ps.map PV.dn) := rfl
theorem opX_dget (ps : List PV) : opX .dget ps = opSem .dget (ps.map PV.dn) := rfl
theorem opX_values (ps : List PV) : opX .values ps = opSem .values (ps.map PV.dn) := rfl
theorem opX_dmod (ps : List PV) : opX .dmod ps = opSem .dmod (ps.map PV.dn) := rfl
theorem opX_lcnt (ps : List PV) : opX .lcnt ps = opSem .lcnt (ps.map PV.dn) := rfl
theorem opX_tcnt (ps : List PV) : opX .tcnt ps = opSem .tcnt (ps.map PV.dn) := rfl
theorem opX_lidx (ps : List PV) : opX .lidx ps = opSem .lidx (ps.map PV.dn) := rfl
theorem opX_bits (ps : List PV) : opX .bits ps = opSem .bits (ps.map PV.dn) := rfl
theorem opX_sortedD (ps : List PV) : opX .sortedD ps = opSem .sortedD (ps.map PV.dn) := rfl
theorem opX_minD (ps : List PV) : opX .minD ps = opSem .minD (ps.map PV.dn) := rfl
theorem opX_maxD (ps : List PV) : opX .maxD ps = opSem .maxD (ps.map PV.dn) := rfl
theorem opX_isB (b : Bool) (ps : List PV) : opX (.isB b) ps = opSem (.isB b) (ps.map PV.dn) := rfl
theorem opX_isNB (b : Bool) (ps : List PV) : opX (.isNB b) ps = opSem (.isNB b) (ps.map PV.dn) := rfl
theorem opX_isTy (b : List String) (ps : List PV) : opX (.isTy b) ps = opSem (.isTy b) (ps.map PV.dn) := rfl
theorem opX_slc (a b : Bool) (ps : List PV) : opX (.slc a b) ps = opSem (.slc a b) (ps.map PV.dn) := rfl
theorem opX_isEx (a b : List Str) (ps : List PV) : opX (.isEx a b) ps = opSem (.isEx a b) (ps.map PV.dn) := rfl
theorem opX_dict1 (ps : List PV) : opX .dict1 ps = opSem .dict1 ps := rfl
theorem opX_tupleX (ps : List PV) : opX .tupleX ps = opSem .tupleX ps := rfl
def callK (avs : List AV) (ρ : Env) (ls : List LV) (r : CR) : ER LV := match r with
  | .ok r ls' => if ls'.length = ls.length then .ok r (AV.back ρ avs (maskL ls ls')) else .st
  | .ex c ls' => if ls'.length = ls.length then .ex c (AV.back ρ avs (maskL ls ls')) else .st
  | .st => .st
theorem callK_ok (avs : List AV) (ρ : Env) (ls ls' : List LV) (r : LV) : callK avs ρ ls (.ok r ls') = if ls'.length = ls.length then .ok r (AV.back ρ avs (maskL ls ls')) else .st := by
  cases ls <;> rfl
theorem callK_ex (avs : List AV) (ρ : Env) (ls ls' : List LV) (c : Str) : callK avs ρ ls (.ex c ls') = if ls'.length = ls.length then .ex c (AV.back ρ avs (maskL ls ls')) else .st := by
  cases ls <;> rfl
def callK0 (g : List LV → CR) (avs : List AV) (ρ : Env) (o : Option (List LV)) : ER LV := match o with
  | some ls => if (AV.refs avs).Nodup then callK avs ρ ls (g ls) else .st
  | none => .st
theorem callE_k (g : List LV → CR) (avs : List AV) (ρ : Env) : callE g avs ρ = callK0 g avs ρ (AV.lvs ρ avs) := by
  unfold callE callK0
  cases AV.lvs ρ avs with
  | none => rfl
  | some ls =>
    dsimp only
    split
    · unfold callK
      cases g ls <;> rfl
    · rfl
theorem callK0_some (g : List LV → CR) (avs : List AV) (ρ : Env) (ls : List LV) : callK0 g avs ρ (some ls) = if (AV.refs avs).Nodup then callK avs ρ ls (g ls) else .st := by
  cases ls <;> rfl
def bindK (f : Env → SO) (o : Option Env) : SO := match o with
  | some ρ => f ρ
  | none => .st
theorem bindS_k (f : Env → SO) (t : Tg) (x : PV) (ρ : Env) : bindS f t x ρ = bindK f (t.bind x ρ) := by
  unfold bindS bindK
  cases t.bind x ρ <;> rfl
theorem bindK_some (f : Env → SO) (ρ : Env) : bindK f (some ρ) = f ρ := by
  cases ρ <;> rfl
theorem bindK_none (f : Env → SO) : bindK f none = .st := rfl
def SO.seq (r : SO) (k : Env → SO) : SO := match r with
  | .nx ρ => k ρ
  | r => r
theorem SO.seq_nx (ρ : Env) (k : Env → SO) : (SO.nx ρ).seq k = k ρ := rfl
theorem SO.seq_rt (l : LV) (ρ : Env) (k : Env → SO) : (SO.rt l ρ).seq k = .rt l ρ := rfl
theorem SO.seq_ex (l : Str) (ρ : Env) (k : Env → SO) : (SO.ex l ρ).seq k = .ex l ρ := rfl
theorem SO.seq_bk (ρ : Env) (k : Env → SO) : (SO.bk ρ).seq k = .bk ρ := rfl
theorem SO.seq_ct (ρ : Env) (k : Env → SO) : (SO.ct ρ).seq k = .ct ρ := rfl
theorem SO.seq_st (k : Env → SO) : SO.st.seq k = .st := rfl
theorem exSs_nil (Φ : Nat → List LV → CR) (n : Nat) (ρ : Env) : exSs Φ n [] ρ = .nx ρ := by unfold exSs; rfl
theorem exSs_cons (Φ : Nat → List LV → CR) (n : Nat) (s : St) (ss : List St) (ρ : Env) : exSs Φ n (s :: ss) ρ = (exS Φ n s ρ).seq (exSs Φ n ss) := by
  rw [exSs]
  cases exS Φ n s ρ <;> rfl
theorem exSs_app (Φ : Nat → List LV → CR) (n : Nat) (b : List St) : ∀ (a : List St) (ρ : Env), exSs Φ n (a ++ b) ρ = (exSs Φ n a ρ).seq (exSs Φ n b)
  | [], ρ => by rw [exSs_nil]; rfl
  | s :: a, ρ => by
    rw [List.cons_append, exSs_cons, exSs_cons]
    cases h : exS Φ n s ρ with
    | nx ρ1 => rw [SO.seq_nx, SO.seq_nx, exSs_app]
    | _ => rfl
theorem exSs_cut (k : Nat) (Φ : Nat → List LV → CR) (n : Nat) (ss : List St) (ρ : Env) : exSs Φ n ss ρ = (exSs Φ n (ss.take k) ρ).seq (exSs Φ n (ss.drop k)) := by
  rw [← exSs_app, List.take_append_drop]
def SO.fin (np : Nat) (r : SO) : CR := match r with
  | .nx ρ => match lvsOf ρ np with
    | some as => .ok (.fro .non) as
    | none => .st
  | .rt l ρ => match lvsOf ρ np with
    | some as => .ok l as
    | none => .st
  | .ex c ρ => match lvsOf ρ np with
    | some as => .ex c as
    | none => .st
  | _ => .st
theorem SO.fin_nx (np : Nat) (ρ : Env) : (SO.nx ρ).fin np = match lvsOf ρ np with
    | some as => .ok (.fro .non) as
    | none => .st := rfl
theorem SO.fin_rt (np : Nat) (l : LV) (ρ : Env) : (SO.rt l ρ).fin np = match lvsOf ρ np with
    | some as => .ok l as
    | none => .st := rfl
theorem SO.fin_ex (np : Nat) (l : Str) (ρ : Env) : (SO.ex l ρ).fin np = match lvsOf ρ np with
    | some as => .ex l as
    | none => .st := rfl
theorem runFn_eq (Φ : Nat → List LV → CR) (n : Nat) (f : Fn) (ls : List LV) (h : ls.length = f.np ∧ f.np ≤ f.nn ∧ ioOk f.io 0 ls = true) : runFn Φ n f ls = (exSs Φ n f.body (Br.frameOf f ls)).fin f.np := by
  unfold runFn
  rw [if_pos h]
  unfold SO.fin
  cases exSs Φ n f.body (Br.frameOf f ls) <;> rfl
theorem kit_NoneType_int : kitB "NoneType" "int" = some false := by decide +kernel
theorem kit_NoneType_bool : kitB "NoneType" "bool" = some false := by decide +kernel
theorem kit_NoneType_str : kitB "NoneType" "str" = some false := by decide +kernel
theorem kit_NoneType_tuple : kitB "NoneType" "tuple" = some false := by decide +kernel
theorem kit_NoneType_list : kitB "NoneType" "list" = some false := by decide +kernel
theorem kit_NoneType_dict : kitB "NoneType" "dict" = some false := by decide +kernel
theorem kit_bool_int : kitB "bool" "int" = some true := by decide +kernel
theorem kit_bool_bool : kitB "bool" "bool" = some true := by decide +kernel
theorem kit_bool_str : kitB "bool" "str" = some false := by decide +kernel
theorem kit_bool_tuple : kitB "bool" "tuple" = some false := by decide +kernel
theorem kit_bool_list : kitB "bool" "list" = some false := by decide +kernel
theorem kit_bool_dict : kitB "bool" "dict" = some false := by decide +kernel
theorem kit_int_int : kitB "int" "int" = some true := by decide +kernel
theorem kit_int_bool : kitB "int" "bool" = some false := by decide +kernel
theorem kit_int_str : kitB "int" "str" = some false := by decide +kernel
theorem kit_int_tuple : kitB "int" "tuple" = some false := by decide +kernel
theorem kit_int_list : kitB "int" "list" = some false := by decide +kernel
theorem kit_int_dict : kitB "int" "dict" = some false := by decide +kernel
theorem kit_str_int : kitB "str" "int" = some false := by decide +kernel
theorem kit_str_bool : kitB "str" "bool" = some false := by decide +kernel
theorem kit_str_str : kitB "str" "str" = some true := by decide +kernel
theorem kit_str_tuple : kitB "str" "tuple" = some false := by decide +kernel
theorem kit_str_list : kitB "str" "list" = some false := by decide +kernel
theorem kit_str_dict : kitB "str" "dict" = some false := by decide +kernel
theorem kit_tuple_int : kitB "tuple" "int" = some false := by decide +kernel
theorem kit_tuple_bool : kitB "tuple" "bool" = some false := by decide +kernel
theorem kit_tuple_str : kitB "tuple" "str" = some false := by decide +kernel
theorem kit_tuple_tuple : kitB "tuple" "tuple" = some true := by decide +kernel
theorem kit_tuple_list : kitB "tuple" "list" = some false := by decide +kernel
theorem kit_tuple_dict : kitB "tuple" "dict" = some false := by decide +kernel
theorem kit_list_int : kitB "list" "int" = some false := by decide +kernel
theorem kit_list_bool : kitB "list" "bool" = some false := by decide +kernel
theorem kit_list_str : kitB "list" "str" = some false := by decide +kernel
theorem kit_list_tuple : kitB "list" "tuple" = some false := by decide +kernel
theorem kit_list_list : kitB "list" "list" = some true := by decide +kernel
theorem kit_list_dict : kitB "list" "dict" = some false := by decide +kernel
theorem kit_dict_int : kitB "dict" "int" = some false := by decide +kernel
theorem kit_dict_bool : kitB "dict" "bool" = some false := by decide +kernel
theorem kit_dict_str : kitB "dict" "str" = some false := by decide +kernel
theorem kit_dict_tuple : kitB "dict" "tuple" = some false := by decide +kernel
theorem kit_dict_list : kitB "dict" "list" = some false := by decide +kernel
theorem kit_dict_dict : kitB "dict" "dict" = some true := by decide +kernel
def froO (x : Option (Option LV)) : Option LV := match x with
  | some (some (.fro p)) => some (.fro p)
  | _ => none
theorem froO_f (p : PV) : froO (some (some (.fro p))) = some (.fro p) := rfl
theorem froO_n : froO (some none) = none := rfl
theorem froO_0 : froO none = none := rfl
theorem froO_o (p : PV) : froO (some (some (.own p))) = none := rfl
theorem backE_nil (ρ ρ' : Env) : backE ρ ρ' [] = ρ' := by unfold backE; rfl
theorem backE_cons (ρ ρ' : Env) (v : Nat) (vs : List Nat) : backE ρ ρ' (v :: vs) = (backE ρ ρ' vs).set v (froO ρ[v]?) := by
  rw [backE]
  unfold froO
  split <;> simp_all
theorem compL_map {f : PV → Env → ER (Option PV)} {h : PV → PV} {ρ : Env} : ∀ {xs : List PV}, (∀ x ∈ xs, f x ρ = .ok (some (h x)) ρ) → compL f xs ρ = .ok (xs.map h) ρ
  | [], _ => rfl
  | x :: xs, H => by
    unfold compL
    rw [H x (by simp)]
    dsimp only
    rw [compL_map fun y hy => H y (by simp [hy])]
    rfl
theorem compL_fmap {f : PV → Env → ER (Option PV)} {h : PV → Option PV} {ρ : Env} : ∀ {xs : List PV}, (∀ x ∈ xs, f x ρ = .ok (h x) ρ) → compL f xs ρ = .ok (xs.filterMap h) ρ
  | [], _ => rfl
  | x :: xs, H => by
    unfold compL
    rw [H x (by simp)]
    rw [List.filterMap_cons]
    cases h x with
    | none => exact compL_fmap fun y hy => H y (by simp [hy])
    | some z =>
      dsimp only
      rw [compL_fmap fun y hy => H y (by simp [hy])]
theorem compL_inv {f : PV → Env → ER (Option PV)} {h : PV → Option PV} (I : Env → Prop) : ∀ {xs : List PV} {ρ : Env}, I ρ → (∀ x ∈ xs, ∀ ρ, I ρ → ∃ ρ', f x ρ = .ok (h x) ρ' ∧ I ρ') → ∃ ρ', compL f xs ρ = .ok (xs.filterMap h) ρ' ∧ I ρ'
  | [], ρ, i, _ => ⟨ρ, rfl, i⟩
  | x :: xs, ρ, i, H => by
    obtain ⟨ρ1, h1, i1⟩ := H x (by simp) ρ i
    obtain ⟨ρ2, h2, i2⟩ := compL_inv I (xs := xs) i1 fun y hy => H y (by simp [hy])
    refine ⟨ρ2, ?_, i2⟩
    unfold compL
    rw [h1, List.filterMap_cons]
    cases h x with
    | none => exact h2
    | some z =>
      dsimp only
      rw [h2]
/-- .. one after the other, the state told by how many are done -/
theorem compL_run {f : PV → Env → ER (Option PV)} (I : List PV → Env → Prop) : ∀ {xs : List PV} {ρ : Env} (done : List PV), I done ρ → (∀ (i : Nat) x done ρ, xs[i]? = some x → I done ρ → ∃ ρ' r, f x ρ = .ok r ρ' ∧ I (done ++ r.toList) ρ') → ∃ ρ' ys, compL f xs ρ = .ok ys ρ' ∧ I (done ++ ys) ρ'
  | [], ρ, done, i, _ => ⟨ρ, [], rfl, by simpa using i⟩
  | x :: xs, ρ, done, i, H => by
    obtain ⟨ρ1, r, h1, i1⟩ := H 0 x done ρ rfl i
    obtain ⟨ρ2, ys, h2, i2⟩ := compL_run I (xs := xs) _ i1 fun i y d ρ hy hi => H (i + 1) y d ρ (by simpa using hy) hi
    refine ⟨ρ2, r.toList ++ ys, ?_, by simpa using i2⟩
    unfold compL
    rw [h1]
    cases r with
    | none => simpa using h2
    | some z =>
      dsimp only
      rw [h2]
      rfl
/-- a loop whose body goes on -/
theorem forL_inv {f : PV → Env → SO} {xs : List PV} {ρ : Env} (I : Nat → Env → Prop) (h0 : I 0 ρ) (step : ∀ i x ρ, xs[i]? = some x → I i ρ → ∃ ρ', (f x ρ = .nx ρ' ∨ f x ρ = .ct ρ') ∧ I (i + 1) ρ') : ∃ ρ', forL f xs ρ = .nx ρ' ∧ I xs.length ρ' := by
  induction xs generalizing ρ I with
  | nil => exact ⟨ρ, rfl, h0⟩
  | cons x xs ih =>
    obtain ⟨ρ1, h1, i1⟩ := step 0 x ρ rfl h0
    obtain ⟨ρ2, h2, i2⟩ := ih (fun i => I (i + 1)) i1 fun i y ρ hy hi => step (i + 1) y ρ (by simpa using hy) hi
    refine ⟨ρ2, ?_, by simpa using i2⟩
    unfold forL
    rcases h1 with h1 | h1 <;> rw [h1] <;> exact h2
/-- .. or ends early -/
theorem forL_post {f : PV → Env → SO} {xs : List PV} {ρ : Env} (I : Nat → Env → Prop) (Q : SO → Prop) (h0 : I 0 ρ)
    (step : ∀ i x ρ, xs[i]? = some x → I i ρ → (∃ ρ', (f x ρ = .nx ρ' ∨ f x ρ = .ct ρ') ∧ I (i + 1) ρ') ∨ (∃ ρ', f x ρ = .bk ρ' ∧ Q (.nx ρ')) ∨ (∃ l ρ', f x ρ = .rt l ρ' ∧ Q (.rt l ρ')) ∨ ∃ c ρ', f x ρ = .ex c ρ' ∧ Q (.ex c ρ'))
    (hend : ∀ ρ, I xs.length ρ → Q (.nx ρ)) : Q (forL f xs ρ) := by
  induction xs generalizing ρ I with
  | nil => exact hend ρ h0
  | cons x xs ih =>
    unfold forL
    rcases step 0 x ρ rfl h0 with ⟨ρ1, h1, i1⟩ | ⟨ρ1, h1, q⟩ | ⟨l, ρ1, h1, q⟩ | ⟨c, ρ1, h1, q⟩
    · have := ih (fun i => I (i + 1)) i1 (fun i y ρ hy hi => step (i + 1) y ρ (by simpa using hy) hi) (fun ρ h => hend ρ (by simpa using h))
      rcases h1 with h1 | h1 <;> rw [h1] <;> exact this
    · rw [h1]; exact q
    · rw [h1]; exact q
    · rw [h1]; exact q
/-- a loop over plain states -/
theorem forL_fold {S : Type} {f : PV → Env → SO} (emb : S → Env) (stp : S → PV → S) : ∀ {xs : List PV} {s : S}, (∀ s x, x ∈ xs → f x (emb s) = .nx (emb (stp s x))) → forL f xs (emb s) = .nx (emb (xs.foldl stp s))
  | [], _, _ => rfl
  | x :: xs, s, H => by
    unfold forL
    rw [H s x (by simp)]
    exact forL_fold emb stp fun s y hy => H s y (by simp [hy])
/-- while: an invariant with a measure -/
theorem whlL_post {c : Env → ER Bool} {f : Env → SO} (I : Nat → Env → Prop) (Q : SO → Prop)
    (step : ∀ m ρ, I m ρ → (∃ ρ1, c ρ = .ok false ρ1 ∧ Q (.nx ρ1)) ∨ ∃ ρ1, c ρ = .ok true ρ1 ∧ ((∃ ρ' m', (f ρ1 = .nx ρ' ∨ f ρ1 = .ct ρ') ∧ m' < m ∧ I m' ρ') ∨ (∃ ρ', f ρ1 = .bk ρ' ∧ Q (.nx ρ')) ∨ (∃ l ρ', f ρ1 = .rt l ρ' ∧ Q (.rt l ρ')) ∨ ∃ e ρ', f ρ1 = .ex e ρ' ∧ Q (.ex e ρ'))) :
    ∀ (n m : Nat) (ρ : Env), m < n → I m ρ → Q (whlL c f n ρ)
  | 0, m, ρ, h, _ => absurd h (Nat.not_lt_zero m)
  | n + 1, m, ρ, h, hi => by
    unfold whlL
    rcases step m ρ hi with ⟨ρ1, h1, q⟩ | ⟨ρ1, h1, h2⟩
    · rw [h1]; exact q
    · rw [h1]
      dsimp only
      rcases h2 with ⟨ρ', m', h2, hm, i'⟩ | ⟨ρ', h2, q⟩ | ⟨l, ρ', h2, q⟩ | ⟨e, ρ', h2, q⟩
      · have := whlL_post I Q step n m' ρ' (by omega) i'
        rcases h2 with h2 | h2 <;> rw [h2] <;> exact this
      · rw [h2]; exact q
      · rw [h2]; exact q
      · rw [h2]; exact q
/-- an int, a bool, a list read off -/
def PV.i : PV → Int
  | .int i => i
  | _ => 0
theorem PV.i_int (i : Int) : (PV.int i).i = i := rfl
theorem rngP_at {a b : Int} {i : Nat} {x : PV} (h : (rngP a b)[i]? = some x) : x = .int (a + (i : Nat)) ∧ (i : Int) < b - a := by
  have h1 := (List.getElem?_eq_some_iff.mp h).1
  have hlen : (rngP a b).length = (b - a).toNat := by simp [rngP]
  rw [hlen] at h1
  have h2 := (List.getElem?_eq_some_iff.mp h).2
  refine ⟨?_, by omega⟩
  rw [← h2]
  simp [rngP]
theorem rngP_len (a b : Int) : (rngP a b).length = (b - a).toNat := by simp [rngP]
theorem log2_lt_9000 {n : Nat} (h : n < 2 ^ 256) : n.log2 < 9000 := by
  by_cases h0 : n = 0
  · subst h0; simp
  · have := (Nat.log2_lt h0).mpr h
    omega
theorem atI_in {α : Type} {l : List α} {x : Int} (h0 : 0 ≤ x) (h1 : x < l.length) : ∃ v ∈ l, L2.atI l x = some v := by
  unfold L2.atI L2.ixN
  rw [if_pos h0, if_pos h1]
  have h2 : x.toNat < l.length := by omega
  exact ⟨l[x.toNat], List.getElem_mem h2, by simp [h2]⟩
theorem atI_n {α : Type} (l : List α) (k : Nat) (x : α) (h : l[k]? = some x) : L2.atI l (k : Int) = some x := by
  have hk := (List.getElem?_eq_some_iff.mp h).1
  unfold L2.atI L2.ixN
  rw [if_pos (by omega), if_pos (by omega)]
  simpa using h
theorem atI_0 {α : Type} (x : α) (l : List α) : L2.atI (x :: l) 0 = some x := atI_n _ 0 _ rfl
theorem atI_1 {α : Type} (x y : α) (l : List α) : L2.atI (x :: y :: l) 1 = some y := atI_n _ 1 _ rfl
theorem atI_2 {α : Type} (x y z : α) (l : List α) : L2.atI (x :: y :: z :: l) 2 = some z := atI_n _ 2 _ rfl
theorem rng_ok {a : Int} (h1 : -4611686018427387904 ≤ a) (h2 : a < 4611686018427387904) : rngOk a := ⟨by omega, by omega⟩
theorem mul_ok_r {x y : Int} (h : y.natAbs < 18446744073709551616) : mulOk x y := .inr (.inl (by omega))
theorem mul_ok_l {x y : Int} (h : x.natAbs < 18446744073709551616) : mulOk x y := .inl (by omega)
/-! equality -/
def eqPs (l m : List PV) : Bool := PyData.eqvAll (PV.toDs l) (PV.toDs m)
theorem eqP_ii (a b : Int) : eqP (.int a) (.int b) = decide (a = b) := by
  unfold eqP PV.toD
  rw [PyData.eqv]
  rfl
theorem eqP_ss (a b : Str) : eqP (.str a) (.str b) = decide (a = b) := by
  unfold eqP PV.toD
  rw [PyData.eqv]
  by_cases h : a = b
  · subst h; simp
  · rw [decide_eq_false h]; exact beq_eq_false_iff_ne.mpr h
theorem eqP_bb (a b : Bool) : eqP (.bl a) (.bl b) = (a == b) := by
  unfold eqP PV.toD
  rw [PyData.eqv]
theorem eqP_nn : eqP .non .non = true := by
  unfold eqP PV.toD
  rw [PyData.eqv]
theorem eqP_tt (a b : List PV) : eqP (.tup a) (.tup b) = eqPs a b := by
  unfold eqP eqPs
  rw [PV.toD, PV.toD, PyData.eqv]
theorem eqP_ll (a b : List PV) : eqP (.lst a) (.lst b) = eqPs a b := by
  unfold eqP eqPs
  rw [PV.toD, PV.toD, PyData.eqv]
theorem eqPs_00 : eqPs [] [] = true := by
  unfold eqPs
  rw [PV.toDs, PyData.eqvAll]
theorem eqPs_0c (y : PV) (ys : List PV) : eqPs [] (y :: ys) = false := by
  unfold eqPs
  rw [PV.toDs, PV.toDs, PyData.eqvAll]
theorem eqPs_c0 (y : PV) (ys : List PV) : eqPs (y :: ys) [] = false := by
  unfold eqPs
  rw [PV.toDs, PV.toDs, PyData.eqvAll]
theorem eqPs_cc (x y : PV) (xs ys : List PV) : eqPs (x :: xs) (y :: ys) = (eqP x y && eqPs xs ys) := by
  unfold eqPs eqP
  rw [PV.toDs, PV.toDs, PyData.eqvAll]
theorem eqPs_ints : ∀ (l m : List Int), eqPs (l.map .int) (m.map .int) = decide (l = m)
  | [], [] => by simp [eqPs_00]
  | [], _ :: _ => by simp [eqPs_0c]
  | _ :: _, [] => by simp [eqPs_c0]
  | x :: xs, y :: ys => by simp [eqPs_cc, eqP_ii, eqPs_ints xs ys]
theorem eqP_xl (a : List PV) (q : PV) : eqP (.xt a) q = eqP (.tup a) q := by
  unfold eqP
  rw [show (PV.xt a).toD = (PV.tup a).toD from toD_dn (.xt a) ▸ rfl]
theorem eqP_xr (a : List PV) (q : PV) : eqP q (.xt a) = eqP q (.tup a) := by
  unfold eqP
  rw [show (PV.xt a).toD = (PV.tup a).toD from toD_dn (.xt a) ▸ rfl]
theorem eqP_ni  (b : Int) : eqP (.non) (.int b) = false := by
  unfold eqP
  rw [PV.toD, PV.toD, PyData.eqv] <;> (intro _ h; cases h)
theorem eqP_ns  (b : Str) : eqP (.non) (.str b) = false := by
  unfold eqP
  rw [PV.toD, PV.toD, PyData.eqv] <;> (intro _ h; cases h)
theorem eqP_nt  (b : List PV) : eqP (.non) (.tup b) = false := by
  unfold eqP
  rw [PV.toD, PV.toD, PyData.eqv] <;> (intro _ h; cases h)
theorem eqP_nl  (b : List PV) : eqP (.non) (.lst b) = false := by
  unfold eqP
  rw [PV.toD, PV.toD, PyData.eqv] <;> (intro _ h; cases h)
theorem eqP_nb  (b : Bool) : eqP (.non) (.bl b) = false := by
  unfold eqP
  rw [PV.toD, PV.toD, PyData.eqv] <;> (intro _ h; cases h)
theorem eqP_in (a : Int)  : eqP (.int a) (.non) = false := by
  unfold eqP
  rw [PV.toD, PV.toD, PyData.eqv] <;> (intro _ h; cases h)
theorem eqP_is (a : Int) (b : Str) : eqP (.int a) (.str b) = false := by
  unfold eqP
  rw [PV.toD, PV.toD, PyData.eqv] <;> (intro _ h; cases h)
theorem eqP_it (a : Int) (b : List PV) : eqP (.int a) (.tup b) = false := by
  unfold eqP
  rw [PV.toD, PV.toD, PyData.eqv] <;> (intro _ h; cases h)
theorem eqP_il (a : Int) (b : List PV) : eqP (.int a) (.lst b) = false := by
  unfold eqP
  rw [PV.toD, PV.toD, PyData.eqv] <;> (intro _ h; cases h)
theorem eqP_sn (a : Str)  : eqP (.str a) (.non) = false := by
  unfold eqP
  rw [PV.toD, PV.toD, PyData.eqv] <;> (intro _ h; cases h)
theorem eqP_si (a : Str) (b : Int) : eqP (.str a) (.int b) = false := by
  unfold eqP
  rw [PV.toD, PV.toD, PyData.eqv] <;> (intro _ h; cases h)
theorem eqP_st (a : Str) (b : List PV) : eqP (.str a) (.tup b) = false := by
  unfold eqP
  rw [PV.toD, PV.toD, PyData.eqv] <;> (intro _ h; cases h)
theorem eqP_sl (a : Str) (b : List PV) : eqP (.str a) (.lst b) = false := by
  unfold eqP
  rw [PV.toD, PV.toD, PyData.eqv] <;> (intro _ h; cases h)
theorem eqP_sb (a : Str) (b : Bool) : eqP (.str a) (.bl b) = false := by
  unfold eqP
  rw [PV.toD, PV.toD, PyData.eqv] <;> (intro _ h; cases h)
theorem eqP_tn (a : List PV)  : eqP (.tup a) (.non) = false := by
  unfold eqP
  rw [PV.toD, PV.toD, PyData.eqv] <;> (intro _ h; cases h)
theorem eqP_ti (a : List PV) (b : Int) : eqP (.tup a) (.int b) = false := by
  unfold eqP
  rw [PV.toD, PV.toD, PyData.eqv] <;> (intro _ h; cases h)
theorem eqP_ts (a : List PV) (b : Str) : eqP (.tup a) (.str b) = false := by
  unfold eqP
  rw [PV.toD, PV.toD, PyData.eqv] <;> (intro _ h; cases h)
theorem eqP_tl (a : List PV) (b : List PV) : eqP (.tup a) (.lst b) = false := by
  unfold eqP
  rw [PV.toD, PV.toD, PyData.eqv] <;> (intro _ h; cases h)
theorem eqP_tb (a : List PV) (b : Bool) : eqP (.tup a) (.bl b) = false := by
  unfold eqP
  rw [PV.toD, PV.toD, PyData.eqv] <;> (intro _ h; cases h)
theorem eqP_ln (a : List PV)  : eqP (.lst a) (.non) = false := by
  unfold eqP
  rw [PV.toD, PV.toD, PyData.eqv] <;> (intro _ h; cases h)
theorem eqP_li (a : List PV) (b : Int) : eqP (.lst a) (.int b) = false := by
  unfold eqP
  rw [PV.toD, PV.toD, PyData.eqv] <;> (intro _ h; cases h)
theorem eqP_ls (a : List PV) (b : Str) : eqP (.lst a) (.str b) = false := by
  unfold eqP
  rw [PV.toD, PV.toD, PyData.eqv] <;> (intro _ h; cases h)
theorem eqP_lt (a : List PV) (b : List PV) : eqP (.lst a) (.tup b) = false := by
  unfold eqP
  rw [PV.toD, PV.toD, PyData.eqv] <;> (intro _ h; cases h)
theorem eqP_lb (a : List PV) (b : Bool) : eqP (.lst a) (.bl b) = false := by
  unfold eqP
  rw [PV.toD, PV.toD, PyData.eqv] <;> (intro _ h; cases h)
theorem eqP_bn (a : Bool)  : eqP (.bl a) (.non) = false := by
  unfold eqP
  rw [PV.toD, PV.toD, PyData.eqv] <;> (intro _ h; cases h)
theorem eqP_bs (a : Bool) (b : Str) : eqP (.bl a) (.str b) = false := by
  unfold eqP
  rw [PV.toD, PV.toD, PyData.eqv] <;> (intro _ h; cases h)
theorem eqP_bt (a : Bool) (b : List PV) : eqP (.bl a) (.tup b) = false := by
  unfold eqP
  rw [PV.toD, PV.toD, PyData.eqv] <;> (intro _ h; cases h)
theorem eqP_bl (a : Bool) (b : List PV) : eqP (.bl a) (.lst b) = false := by
  unfold eqP
  rw [PV.toD, PV.toD, PyData.eqv] <;> (intro _ h; cases h)
theorem cutP_len (l : List PV) (a b : Option Int) : (cutP l a b).length ≤ l.length := by
  unfold cutP
  rw [List.length_take, List.length_drop]
  omega
theorem cutP_mem {l : List PV} {a b : Option Int} {x : PV} (h : x ∈ cutP l a b) : x ∈ l := List.mem_of_mem_drop (List.mem_of_mem_take h)
theorem cutP_int {ns : List Int} {a b : Option Int} {x : PV} (h : x ∈ cutP (ns.map PV.int) a b) : ∃ c, x = .int c := by
  obtain ⟨c, _, rfl⟩ := List.mem_map.mp (cutP_mem h)
  exact ⟨c, rfl⟩
theorem strlen_ok {n : Int} (h0 : 0 ≤ n) (h : n.natAbs < 2 ^ 256) : (Str.ofString (toString n)).length ≤ 1000000 := by
  obtain ⟨m, rfl⟩ := Int.eq_ofNat_of_zero_le h0
  have h1 := congrArg List.length (PySem.W.KIN.signs_num m)
  rw [List.length_map] at h1
  have h2 : (Nat.toDigits 10 m).length ≤ 100 := PySem.toDigits_len_pow (by omega) (by omega) (by
    have : m < 2 ^ 256 := by simpa using h
    exact Nat.lt_of_lt_of_le this (by decide))
  have h3 : (Str.ofString (toString (m : Int))).length = (Str.ofString (toString (m : Int))).cps.toList.length := by
    unfold Str.length
    simp
  omega
theorem mul_ok_b {x y : Int} (hx : x.natAbs < 2 ^ 256) (hy : y.natAbs < 2 ^ 256) : mulOk x y := by
  refine .inr (.inr ?_)
  have := log2_lt_9000 hx
  have := log2_lt_9000 hy
  omega
theorem div_bound {a p : Int} (hp : 1 ≤ p) : (a / p).natAbs ≤ a.natAbs := by
  by_cases h : 0 ≤ a
  · have h1 := Int.ediv_nonneg h (show 0 ≤ p by omega)
    have h2 := Int.ediv_le_self p h
    omega
  · have h1 : a ≤ a / p := by
      apply Int.le_ediv_of_mul_le (by omega)
      have := Int.mul_le_mul_of_nonpos_left (show a ≤ 0 by omega) hp
      omega
    have h2 : a / p < 0 := Int.ediv_neg_of_neg_of_pos (by omega) (by omega)
    omega
theorem strlen_r {n : Int} (h0 : 0 ≤ n) (h : n.natAbs < 2 ^ 256) : (Str.ofString (Int.repr n)).length ≤ 1000000 := strlen_ok h0 h
end Br
set_option maxHeartbeats 0
namespace Cm
open PySem Br
def bd_law_deal_b321_1 : List Br.St := [.set 3 (.app .mod [.val (.app .add [.val (.app .add [.val (.app .mul [.ref 3, .val (.cst (.int 48271))]), .ref 4]), .val (.cst (.int 1))]), .val (.cst (.int 2147483647))]), .set 5 (.app .mod [.val (.app .mul [.ref 3, .ref 3]), .val (.cst (.int 2147483629))]), .set 2 (.app .add [.val (.app .mul [.ref 2, .val (.cst (.int 999983))]), .val (.app .mod [.val (.app .add [.val (.app .fdiv [.ref 5, .val (.cst (.int 1021))]), .ref 5]), .val (.cst (.int 999983))])])]
def ir_law_deal_b321 : Fn := ⟨6, 2, [0, 1], [.ite (.e (.app .ge [.ref 0, .val (.app .pow [.val (.cst (.int 10)), .val (.cst (.int 18))])])) [.ret (.lst [.app .sub [.ref 0, .val (.app .pow [.val (.cst (.int 10)), .val (.cst (.int 18))])]])] [], .set 2 (.cst (.int 0)), .set 3 (.app .mod [.val (.app .mul [.val (.app .add [.val (.app .mod [.ref 0, .val (.cst (.int 2147483647))]), .val (.cst (.int 2311))]), .val (.cst (.int 69621))]), .val (.cst (.int 2147483647))]), .for (.rng1 (.var 1)) (.one 4) bd_law_deal_b321_1, .ret (.lst [.var 2])]⟩
def ph_law_deal_b321 : Nat → List LV → CR := fun j => match j with | _ => fun _ => .st
def g_law_deal_b321 : List LV → CR := runFn ph_law_deal_b321 1000000 ir_law_deal_b321
theorem deal_b321 (c m : Int) (hm : 0 ≤ m) (hm2 : m < 1000000) : ∃ a : Int, 0 ≤ a ∧ g_law_deal_b321 [.fro (.int c), .fro (.int m)] = .ok (.own (.lst [.int a])) [.fro (.int c), .fro (.int m)] := by
  (unfold g_law_deal_b321 ir_law_deal_b321; rw [runFn_eq _ _ _ _ ⟨rfl, by decide, rfl⟩])
  have hr : rngOk m := rng_ok (by omega) (by omega)
  by_cases h : 1000000000000000000 ≤ c
  · exact ⟨c - 1000000000000000000, by omega, by simp -implicitDefEqProofs [ioOk, Br.frameOf, lvsOf, Br.exSs_nil, Br.exSs_cons, SO.seq_nx, SO.seq_rt, SO.seq_ex, SO.seq_bk, SO.seq_ct, SO.seq_st, SO.fin_nx, SO.fin_rt, SO.fin_ex, Br.v_app, Br.v_mth, Br.v_tup, Br.v_lst, Br.v_cst, Br.v_dnew, Br.v_var, Br.v_call, Br.v_and, Br.v_or, Br.v_not, Br.v_ite, Br.v_chain, Br.v_sl2, Br.v_comp, Br.v_aref, Br.v_aval, Br.v_as0, Br.v_as, Br.v_es0, Br.v_es, Br.v_tand, Br.v_tor, Br.v_tnot, Br.v_te, Br.v_ts0, Br.v_ts1, Br.v_seq, Br.v_rng1, Br.v_rng2, Br.v_enum, Br.v_zip, Br.v_popE, Br.v_dispV, Br.l_dispV', Br.v_popL, Br.l_popE, Br.l_popL, Br.kPopE_eq, Br.putE_some, Br.putE_none, Br.v_rev, Br.l_app, Br.l_mth', Br.l_lst', Br.l_dnew', Br.l_call', Br.l_comp', Br.l_var, Br.l_cst, Br.l_tup, Br.l_and, Br.l_or, Br.l_not, Br.l_ite, Br.l_chain, Br.l_sl2, Br.x_set, Br.x_unp, Br.x_par, Br.x_setIx, Br.x_app, Br.x_ext, Br.x_popA, Br.x_insA, Br.kPopA, Br.kIns1, Br.kIns2, Br.x_ex, Br.x_ret, Br.x_retV, Br.x_retN, Br.x_if, Br.x_whl, Br.x_brk, Br.x_cont, Br.x_pass, Br.x_raise, Br.kOp, Br.kVal, Br.kCons, Br.kAs, Br.kConsE, Br.kEs, Br.kTup, Br.kLst, Br.kCall, Br.kMth2, Br.kMth, Br.kAnd, Br.kOr, Br.kNot, Br.kIte, Br.kCh4, Br.kCh3, Br.kCh2b, Br.kCh2, Br.kCh1, Br.kS3, Br.kS2, Br.kS1, Br.kC6, Br.kC5, Br.kC4, Br.kC3, Br.kC0, Br.kC2, Br.kC1, Br.kTand, Br.kTor, Br.kTnot, Br.kTe, Br.kSeq, Br.kR1, Br.kR3, Br.kR2, Br.kEn, Br.kZ2, Br.kZ1, Br.kRv, Br.kOwn, Br.kFro, Br.kOwnV, Br.kCallL, Br.kSet, Br.kUnp, Br.kPar, Br.kSI2, Br.kSI1, Br.kApp, Br.kExt, Br.kEx, Br.kRet, Br.kIf, Br.kFor, Br.ifE_t, Br.ifE_f, Br.ifS_t, Br.ifS_f, Br.okE_eq, Br.cF, Br.x_for, ne_eq, reduceCtorEq, not_false_eq_true, implies_true, ER.bind_ok, ER.bind_ex, ER.bind_st, ER.so_ok, ER.so_ex, ER.so_st, ER.of_some, ER.of_none, SO.of_some, SO.of_none, Br.bindS_k, Br.bindK_some, Br.bindK_none, Tg.bind, Tg.binds, at', setIxP, AV.pvs, AV.pv, AV.lvs, AV.lv, AV.refs, AV.back, maskL, LV.isFro, LV.pv, Br.callE_k, Br.callK0_some, Br.callK_ok, Br.callK_ex, froE, Br.opX_add, Br.opX_sub, Br.opX_mul, Br.opX_fdiv, Br.opX_mod, Br.opX_pow, Br.opX_neg, Br.opX_eq, Br.opX_ne, Br.opX_lt, Br.opX_le, Br.opX_gt, Br.opX_ge, Br.opX_isN, Br.opX_isNN, Br.opX_inn, Br.opX_nin, Br.opX_len, Br.opX_sum, Br.opX_abs, Br.opX_int1, Br.opX_str1, Br.opX_tuple1, Br.opX_list1, Br.opX_sorted, Br.opX_allL, Br.opX_anyL, Br.opX_min2, Br.opX_max2, Br.opX_minL, Br.opX_maxL, Br.opX_idx, Br.opX_rev, Br.opX_dget, Br.opX_values, Br.opX_dmod, Br.opX_lcnt, Br.opX_tcnt, Br.opX_lidx, Br.opX_bits, Br.opX_sortedD, Br.opX_minD, Br.opX_maxD, Br.opX_isB, Br.opX_isNB, Br.opX_isTy, Br.opX_slc, Br.opX_isEx, Br.opX_dict1, Br.opX_tupleX, Br.dn_non, Br.dn_bl, Br.dn_int, Br.dn_str, Br.dn_ty, Br.dn_exc, Br.dn_tup, Br.dn_xt, Br.dn_lst, Br.dn_dK, Br.dn_dT, Br.dn_dn, Br.isD_dn, Br.eqP_dnl, Br.eqP_dnr, tupleXP, opSem, addP, subP, mulP, fdivP, modP, powP, negP, eqOP, neOP, ltOP, leOP, gtOP, geOP, isNP, isNNP, isBP, isNBP, PV.isNon, lenP, sumP, absP, int1P, str1P, tuple1P, list1P, min2P, max2P, idxP, slcP, slcPart, dmodP, isTyOP, isTys, isTyP, tyName, ownV, Op.new, wipeE, Br.backE_nil, Br.backE_cons, Br.froO_f, Br.froO_n, Br.froO_0, Br.froO_o, seqOf, parE, ownL, keyP, recvOk, PV.isD, PV.isT, Br.eqP_ii, Br.eqP_ss, Br.eqP_bb, Br.eqP_nn, Br.eqP_tt, Br.eqP_ll, Br.eqPs_00, Br.eqPs_0c, Br.eqPs_c0, Br.eqPs_cc, Br.eqPs_ints, Br.eqP_xl, Br.eqP_xr, Br.eqP_ni, Br.eqP_ns, Br.eqP_nt, Br.eqP_nl, Br.eqP_nb, Br.eqP_in, Br.eqP_is, Br.eqP_it, Br.eqP_il, Br.eqP_sn, Br.eqP_si, Br.eqP_st, Br.eqP_sl, Br.eqP_sb, Br.eqP_tn, Br.eqP_ti, Br.eqP_ts, Br.eqP_tl, Br.eqP_tb, Br.eqP_ln, Br.eqP_li, Br.eqP_ls, Br.eqP_lt, Br.eqP_lb, Br.eqP_bn, Br.eqP_bs, Br.eqP_bt, Br.eqP_bl, intsOf, List.getElem?_cons_zero, List.getElem?_cons_succ, List.getElem?_nil, List.set_cons_zero, List.set_cons_succ, List.map_cons, List.map_nil, List.cons_append, List.nil_append, List.length_cons, List.length_nil, List.replicate_succ, List.replicate_zero, List.append_nil, Option.bind_some, Option.bind_none, Option.map_some, Option.map_none, if_true, if_false, ite_true, ite_false, decide_true, decide_false, Bool.and_true, Bool.true_and, Bool.not_true, Bool.not_false, reduceIte, Option.isSome_some, Br.kit_NoneType_int, Br.kit_NoneType_bool, Br.kit_NoneType_str, Br.kit_NoneType_tuple, Br.kit_NoneType_list, Br.kit_NoneType_dict, Br.kit_bool_int, Br.kit_bool_bool, Br.kit_bool_str, Br.kit_bool_tuple, Br.kit_bool_list, Br.kit_bool_dict, Br.kit_int_int, Br.kit_int_bool, Br.kit_int_str, Br.kit_int_tuple, Br.kit_int_list, Br.kit_int_dict, Br.kit_str_int, Br.kit_str_bool, Br.kit_str_str, Br.kit_str_tuple, Br.kit_str_list, Br.kit_str_dict, Br.kit_tuple_int, Br.kit_tuple_bool, Br.kit_tuple_str, Br.kit_tuple_tuple, Br.kit_tuple_list, Br.kit_tuple_dict, Br.kit_list_int, Br.kit_list_bool, Br.kit_list_str, Br.kit_list_tuple, Br.kit_list_list, Br.kit_list_dict, Br.kit_dict_int, Br.kit_dict_bool, Br.kit_dict_str, Br.kit_dict_tuple, Br.kit_dict_list, Br.kit_dict_dict, L2.ixN, Br.rng_ok, Br.mul_ok_r, Br.mul_ok_l, LIM, Br.PV.i_int, Br.log2_lt_9000, Br.atI_0, Br.atI_1, Br.atI_2, lcntP, lidxP, bitsP, revP, cntP, sortedDP, minDP, maxDP, sortX, Br.x_try, Br.tryK_nx, Br.tryK_rt, Br.tryK_bk, Br.tryK_ct, Br.suiteX_nx, Br.suiteX_bk, Br.suiteX_ct, Br.suiteX_rt, Br.setX_some, Br.setX_none, Br.goneX_some, Br.goneX_none, Br.x_lock, Br.kLock_d, Br.lockR_nx, Br.lockR_rt, Br.l_callT', Br.v_callT, Br.kT1, Br.kT2, Br.kT3, Br.kT4_eq, Br.dropT_ok, Br.dropT_ex, Br.dropT_st, Br.sh_val, Br.sh_ref, Br.kXt, Br.v_xtup, Br.l_xtup, Br.lockV_s, Br.thin_0, Br.thin_c, Br.thinO_n, Br.thinO_s, Br.thinL_f, Br.thinL_l, Br.thinL_d, Br.thinL_t, Br.noD_n, Br.noD_b, Br.noD_i, Br.noD_s, Br.noD_e, Br.noD_t, Br.noD_x, Br.noD_l, Br.noD_d, Br.noDs_0, Br.noDs_c, Br.noDs_i, h]⟩
  · simp -implicitDefEqProofs [ioOk, Br.frameOf, lvsOf, Br.exSs_nil, Br.exSs_cons, SO.seq_nx, SO.seq_rt, SO.seq_ex, SO.seq_bk, SO.seq_ct, SO.seq_st, SO.fin_nx, SO.fin_rt, SO.fin_ex, Br.v_app, Br.v_mth, Br.v_tup, Br.v_lst, Br.v_cst, Br.v_dnew, Br.v_var, Br.v_call, Br.v_and, Br.v_or, Br.v_not, Br.v_ite, Br.v_chain, Br.v_sl2, Br.v_comp, Br.v_aref, Br.v_aval, Br.v_as0, Br.v_as, Br.v_es0, Br.v_es, Br.v_tand, Br.v_tor, Br.v_tnot, Br.v_te, Br.v_ts0, Br.v_ts1, Br.v_seq, Br.v_rng1, Br.v_rng2, Br.v_enum, Br.v_zip, Br.v_popE, Br.v_dispV, Br.l_dispV', Br.v_popL, Br.l_popE, Br.l_popL, Br.kPopE_eq, Br.putE_some, Br.putE_none, Br.v_rev, Br.l_app, Br.l_mth', Br.l_lst', Br.l_dnew', Br.l_call', Br.l_comp', Br.l_var, Br.l_cst, Br.l_tup, Br.l_and, Br.l_or, Br.l_not, Br.l_ite, Br.l_chain, Br.l_sl2, Br.x_set, Br.x_unp, Br.x_par, Br.x_setIx, Br.x_app, Br.x_ext, Br.x_popA, Br.x_insA, Br.kPopA, Br.kIns1, Br.kIns2, Br.x_ex, Br.x_ret, Br.x_retV, Br.x_retN, Br.x_if, Br.x_whl, Br.x_brk, Br.x_cont, Br.x_pass, Br.x_raise, Br.kOp, Br.kVal, Br.kCons, Br.kAs, Br.kConsE, Br.kEs, Br.kTup, Br.kLst, Br.kCall, Br.kMth2, Br.kMth, Br.kAnd, Br.kOr, Br.kNot, Br.kIte, Br.kCh4, Br.kCh3, Br.kCh2b, Br.kCh2, Br.kCh1, Br.kS3, Br.kS2, Br.kS1, Br.kC6, Br.kC5, Br.kC4, Br.kC3, Br.kC0, Br.kC2, Br.kC1, Br.kTand, Br.kTor, Br.kTnot, Br.kTe, Br.kSeq, Br.kR1, Br.kR3, Br.kR2, Br.kEn, Br.kZ2, Br.kZ1, Br.kRv, Br.kOwn, Br.kFro, Br.kOwnV, Br.kCallL, Br.kSet, Br.kUnp, Br.kPar, Br.kSI2, Br.kSI1, Br.kApp, Br.kExt, Br.kEx, Br.kRet, Br.kIf, Br.kFor, Br.ifE_t, Br.ifE_f, Br.ifS_t, Br.ifS_f, Br.okE_eq, Br.cF, Br.x_for, ne_eq, reduceCtorEq, not_false_eq_true, implies_true, ER.bind_ok, ER.bind_ex, ER.bind_st, ER.so_ok, ER.so_ex, ER.so_st, ER.of_some, ER.of_none, SO.of_some, SO.of_none, Br.bindS_k, Br.bindK_some, Br.bindK_none, Tg.bind, Tg.binds, at', setIxP, AV.pvs, AV.pv, AV.lvs, AV.lv, AV.refs, AV.back, maskL, LV.isFro, LV.pv, Br.callE_k, Br.callK0_some, Br.callK_ok, Br.callK_ex, froE, Br.opX_add, Br.opX_sub, Br.opX_mul, Br.opX_fdiv, Br.opX_mod, Br.opX_pow, Br.opX_neg, Br.opX_eq, Br.opX_ne, Br.opX_lt, Br.opX_le, Br.opX_gt, Br.opX_ge, Br.opX_isN, Br.opX_isNN, Br.opX_inn, Br.opX_nin, Br.opX_len, Br.opX_sum, Br.opX_abs, Br.opX_int1, Br.opX_str1, Br.opX_tuple1, Br.opX_list1, Br.opX_sorted, Br.opX_allL, Br.opX_anyL, Br.opX_min2, Br.opX_max2, Br.opX_minL, Br.opX_maxL, Br.opX_idx, Br.opX_rev, Br.opX_dget, Br.opX_values, Br.opX_dmod, Br.opX_lcnt, Br.opX_tcnt, Br.opX_lidx, Br.opX_bits, Br.opX_sortedD, Br.opX_minD, Br.opX_maxD, Br.opX_isB, Br.opX_isNB, Br.opX_isTy, Br.opX_slc, Br.opX_isEx, Br.opX_dict1, Br.opX_tupleX, Br.dn_non, Br.dn_bl, Br.dn_int, Br.dn_str, Br.dn_ty, Br.dn_exc, Br.dn_tup, Br.dn_xt, Br.dn_lst, Br.dn_dK, Br.dn_dT, Br.dn_dn, Br.isD_dn, Br.eqP_dnl, Br.eqP_dnr, tupleXP, opSem, addP, subP, mulP, fdivP, modP, powP, negP, eqOP, neOP, ltOP, leOP, gtOP, geOP, isNP, isNNP, isBP, isNBP, PV.isNon, lenP, sumP, absP, int1P, str1P, tuple1P, list1P, min2P, max2P, idxP, slcP, slcPart, dmodP, isTyOP, isTys, isTyP, tyName, ownV, Op.new, wipeE, Br.backE_nil, Br.backE_cons, Br.froO_f, Br.froO_n, Br.froO_0, Br.froO_o, seqOf, parE, ownL, keyP, recvOk, PV.isD, PV.isT, Br.eqP_ii, Br.eqP_ss, Br.eqP_bb, Br.eqP_nn, Br.eqP_tt, Br.eqP_ll, Br.eqPs_00, Br.eqPs_0c, Br.eqPs_c0, Br.eqPs_cc, Br.eqPs_ints, Br.eqP_xl, Br.eqP_xr, Br.eqP_ni, Br.eqP_ns, Br.eqP_nt, Br.eqP_nl, Br.eqP_nb, Br.eqP_in, Br.eqP_is, Br.eqP_it, Br.eqP_il, Br.eqP_sn, Br.eqP_si, Br.eqP_st, Br.eqP_sl, Br.eqP_sb, Br.eqP_tn, Br.eqP_ti, Br.eqP_ts, Br.eqP_tl, Br.eqP_tb, Br.eqP_ln, Br.eqP_li, Br.eqP_ls, Br.eqP_lt, Br.eqP_lb, Br.eqP_bn, Br.eqP_bs, Br.eqP_bt, Br.eqP_bl, intsOf, List.getElem?_cons_zero, List.getElem?_cons_succ, List.getElem?_nil, List.set_cons_zero, List.set_cons_succ, List.map_cons, List.map_nil, List.cons_append, List.nil_append, List.length_cons, List.length_nil, List.replicate_succ, List.replicate_zero, List.append_nil, Option.bind_some, Option.bind_none, Option.map_some, Option.map_none, if_true, if_false, ite_true, ite_false, decide_true, decide_false, Bool.and_true, Bool.true_and, Bool.not_true, Bool.not_false, reduceIte, Option.isSome_some, Br.kit_NoneType_int, Br.kit_NoneType_bool, Br.kit_NoneType_str, Br.kit_NoneType_tuple, Br.kit_NoneType_list, Br.kit_NoneType_dict, Br.kit_bool_int, Br.kit_bool_bool, Br.kit_bool_str, Br.kit_bool_tuple, Br.kit_bool_list, Br.kit_bool_dict, Br.kit_int_int, Br.kit_int_bool, Br.kit_int_str, Br.kit_int_tuple, Br.kit_int_list, Br.kit_int_dict, Br.kit_str_int, Br.kit_str_bool, Br.kit_str_str, Br.kit_str_tuple, Br.kit_str_list, Br.kit_str_dict, Br.kit_tuple_int, Br.kit_tuple_bool, Br.kit_tuple_str, Br.kit_tuple_tuple, Br.kit_tuple_list, Br.kit_tuple_dict, Br.kit_list_int, Br.kit_list_bool, Br.kit_list_str, Br.kit_list_tuple, Br.kit_list_list, Br.kit_list_dict, Br.kit_dict_int, Br.kit_dict_bool, Br.kit_dict_str, Br.kit_dict_tuple, Br.kit_dict_list, Br.kit_dict_dict, L2.ixN, Br.rng_ok, Br.mul_ok_r, Br.mul_ok_l, LIM, Br.PV.i_int, Br.log2_lt_9000, Br.atI_0, Br.atI_1, Br.atI_2, lcntP, lidxP, bitsP, revP, cntP, sortedDP, minDP, maxDP, sortX, Br.x_try, Br.tryK_nx, Br.tryK_rt, Br.tryK_bk, Br.tryK_ct, Br.suiteX_nx, Br.suiteX_bk, Br.suiteX_ct, Br.suiteX_rt, Br.setX_some, Br.setX_none, Br.goneX_some, Br.goneX_none, Br.x_lock, Br.kLock_d, Br.lockR_nx, Br.lockR_rt, Br.l_callT', Br.v_callT, Br.kT1, Br.kT2, Br.kT3, Br.kT4_eq, Br.dropT_ok, Br.dropT_ex, Br.dropT_st, Br.sh_val, Br.sh_ref, Br.kXt, Br.v_xtup, Br.l_xtup, Br.lockV_s, Br.thin_0, Br.thin_c, Br.thinO_n, Br.thinO_s, Br.thinL_f, Br.thinL_l, Br.thinL_d, Br.thinL_t, Br.noD_n, Br.noD_b, Br.noD_i, Br.noD_s, Br.noD_e, Br.noD_t, Br.noD_x, Br.noD_l, Br.noD_d, Br.noDs_0, Br.noDs_c, Br.noDs_i, h, hr]
    obtain ⟨ρ1, h1, a, o, l_k, l_two, ha, ho, ho2, rfl⟩ := forL_inv (f := bindS (exSs ph_law_deal_b321 1000000 bd_law_deal_b321_1) (.one 4)) (xs := rngP 0 m)
      (ρ := [some (.fro (.int (c))), some (.fro (.int (m))), some (.fro (.int (0))), some (.fro (.int ((c % 2147483647 + 2311) * 69621 % 2147483647))), none, none])
      (fun i ρ => ∃ (a o : Int) (l_k l_two : Option LV), 0 ≤ a ∧ 0 ≤ o ∧ o < 2147483647 ∧ ρ = [some (.fro (.int (c))), some (.fro (.int (m))), some (.fro (.int (a))), some (.fro (.int (o))), l_k, l_two])
      ⟨_, _, _, _, by omega, by omega, by omega, rfl⟩
      (fun i x ρ hx hi => by
        obtain ⟨a, o, l_k, l_two, ha, ho, ho2, rfl⟩ := hi
        obtain ⟨rfl, hi2⟩ := rngP_at hx
        have ho' : 0 ≤ (o * 48271 + (0 + (i : Int)) + 1) % 2147483647 := by omega
        have ho3 : (o * 48271 + (0 + (i : Int)) + 1) % 2147483647 < 2147483647 := by omega
        simp only [Int.zero_add] at ho' ho3 ⊢
        generalize hO : (o * 48271 + (i : Int) + 1) % 2147483647 = O at ho' ho3
        have hO2 : O.natAbs < 18446744073709551616 := by omega
        refine ⟨_, .inl (by (conv => lhs; simp -implicitDefEqProofs [ioOk, Br.frameOf, lvsOf, Br.exSs_nil, Br.exSs_cons, SO.seq_nx, SO.seq_rt, SO.seq_ex, SO.seq_bk, SO.seq_ct, SO.seq_st, SO.fin_nx, SO.fin_rt, SO.fin_ex, Br.v_app, Br.v_mth, Br.v_tup, Br.v_lst, Br.v_cst, Br.v_dnew, Br.v_var, Br.v_call, Br.v_and, Br.v_or, Br.v_not, Br.v_ite, Br.v_chain, Br.v_sl2, Br.v_comp, Br.v_aref, Br.v_aval, Br.v_as0, Br.v_as, Br.v_es0, Br.v_es, Br.v_tand, Br.v_tor, Br.v_tnot, Br.v_te, Br.v_ts0, Br.v_ts1, Br.v_seq, Br.v_rng1, Br.v_rng2, Br.v_enum, Br.v_zip, Br.v_popE, Br.v_dispV, Br.l_dispV', Br.v_popL, Br.l_popE, Br.l_popL, Br.kPopE_eq, Br.putE_some, Br.putE_none, Br.v_rev, Br.l_app, Br.l_mth', Br.l_lst', Br.l_dnew', Br.l_call', Br.l_comp', Br.l_var, Br.l_cst, Br.l_tup, Br.l_and, Br.l_or, Br.l_not, Br.l_ite, Br.l_chain, Br.l_sl2, Br.x_set, Br.x_unp, Br.x_par, Br.x_setIx, Br.x_app, Br.x_ext, Br.x_popA, Br.x_insA, Br.kPopA, Br.kIns1, Br.kIns2, Br.x_ex, Br.x_ret, Br.x_retV, Br.x_retN, Br.x_if, Br.x_whl, Br.x_brk, Br.x_cont, Br.x_pass, Br.x_raise, Br.kOp, Br.kVal, Br.kCons, Br.kAs, Br.kConsE, Br.kEs, Br.kTup, Br.kLst, Br.kCall, Br.kMth2, Br.kMth, Br.kAnd, Br.kOr, Br.kNot, Br.kIte, Br.kCh4, Br.kCh3, Br.kCh2b, Br.kCh2, Br.kCh1, Br.kS3, Br.kS2, Br.kS1, Br.kC6, Br.kC5, Br.kC4, Br.kC3, Br.kC0, Br.kC2, Br.kC1, Br.kTand, Br.kTor, Br.kTnot, Br.kTe, Br.kSeq, Br.kR1, Br.kR3, Br.kR2, Br.kEn, Br.kZ2, Br.kZ1, Br.kRv, Br.kOwn, Br.kFro, Br.kOwnV, Br.kCallL, Br.kSet, Br.kUnp, Br.kPar, Br.kSI2, Br.kSI1, Br.kApp, Br.kExt, Br.kEx, Br.kRet, Br.kIf, Br.kFor, Br.ifE_t, Br.ifE_f, Br.ifS_t, Br.ifS_f, Br.okE_eq, Br.cF, Br.x_for, ne_eq, reduceCtorEq, not_false_eq_true, implies_true, ER.bind_ok, ER.bind_ex, ER.bind_st, ER.so_ok, ER.so_ex, ER.so_st, ER.of_some, ER.of_none, SO.of_some, SO.of_none, Br.bindS_k, Br.bindK_some, Br.bindK_none, Tg.bind, Tg.binds, at', setIxP, AV.pvs, AV.pv, AV.lvs, AV.lv, AV.refs, AV.back, maskL, LV.isFro, LV.pv, Br.callE_k, Br.callK0_some, Br.callK_ok, Br.callK_ex, froE, Br.opX_add, Br.opX_sub, Br.opX_mul, Br.opX_fdiv, Br.opX_mod, Br.opX_pow, Br.opX_neg, Br.opX_eq, Br.opX_ne, Br.opX_lt, Br.opX_le, Br.opX_gt, Br.opX_ge, Br.opX_isN, Br.opX_isNN, Br.opX_inn, Br.opX_nin, Br.opX_len, Br.opX_sum, Br.opX_abs, Br.opX_int1, Br.opX_str1, Br.opX_tuple1, Br.opX_list1, Br.opX_sorted, Br.opX_allL, Br.opX_anyL, Br.opX_min2, Br.opX_max2, Br.opX_minL, Br.opX_maxL, Br.opX_idx, Br.opX_rev, Br.opX_dget, Br.opX_values, Br.opX_dmod, Br.opX_lcnt, Br.opX_tcnt, Br.opX_lidx, Br.opX_bits, Br.opX_sortedD, Br.opX_minD, Br.opX_maxD, Br.opX_isB, Br.opX_isNB, Br.opX_isTy, Br.opX_slc, Br.opX_isEx, Br.opX_dict1, Br.opX_tupleX, Br.dn_non, Br.dn_bl, Br.dn_int, Br.dn_str, Br.dn_ty, Br.dn_exc, Br.dn_tup, Br.dn_xt, Br.dn_lst, Br.dn_dK, Br.dn_dT, Br.dn_dn, Br.isD_dn, Br.eqP_dnl, Br.eqP_dnr, tupleXP, opSem, addP, subP, mulP, fdivP, modP, powP, negP, eqOP, neOP, ltOP, leOP, gtOP, geOP, isNP, isNNP, isBP, isNBP, PV.isNon, lenP, sumP, absP, int1P, str1P, tuple1P, list1P, min2P, max2P, idxP, slcP, slcPart, dmodP, isTyOP, isTys, isTyP, tyName, ownV, Op.new, wipeE, Br.backE_nil, Br.backE_cons, Br.froO_f, Br.froO_n, Br.froO_0, Br.froO_o, seqOf, parE, ownL, keyP, recvOk, PV.isD, PV.isT, Br.eqP_ii, Br.eqP_ss, Br.eqP_bb, Br.eqP_nn, Br.eqP_tt, Br.eqP_ll, Br.eqPs_00, Br.eqPs_0c, Br.eqPs_c0, Br.eqPs_cc, Br.eqPs_ints, Br.eqP_xl, Br.eqP_xr, Br.eqP_ni, Br.eqP_ns, Br.eqP_nt, Br.eqP_nl, Br.eqP_nb, Br.eqP_in, Br.eqP_is, Br.eqP_it, Br.eqP_il, Br.eqP_sn, Br.eqP_si, Br.eqP_st, Br.eqP_sl, Br.eqP_sb, Br.eqP_tn, Br.eqP_ti, Br.eqP_ts, Br.eqP_tl, Br.eqP_tb, Br.eqP_ln, Br.eqP_li, Br.eqP_ls, Br.eqP_lt, Br.eqP_lb, Br.eqP_bn, Br.eqP_bs, Br.eqP_bt, Br.eqP_bl, intsOf, List.getElem?_cons_zero, List.getElem?_cons_succ, List.getElem?_nil, List.set_cons_zero, List.set_cons_succ, List.map_cons, List.map_nil, List.cons_append, List.nil_append, List.length_cons, List.length_nil, List.replicate_succ, List.replicate_zero, List.append_nil, Option.bind_some, Option.bind_none, Option.map_some, Option.map_none, if_true, if_false, ite_true, ite_false, decide_true, decide_false, Bool.and_true, Bool.true_and, Bool.not_true, Bool.not_false, reduceIte, Option.isSome_some, Br.kit_NoneType_int, Br.kit_NoneType_bool, Br.kit_NoneType_str, Br.kit_NoneType_tuple, Br.kit_NoneType_list, Br.kit_NoneType_dict, Br.kit_bool_int, Br.kit_bool_bool, Br.kit_bool_str, Br.kit_bool_tuple, Br.kit_bool_list, Br.kit_bool_dict, Br.kit_int_int, Br.kit_int_bool, Br.kit_int_str, Br.kit_int_tuple, Br.kit_int_list, Br.kit_int_dict, Br.kit_str_int, Br.kit_str_bool, Br.kit_str_str, Br.kit_str_tuple, Br.kit_str_list, Br.kit_str_dict, Br.kit_tuple_int, Br.kit_tuple_bool, Br.kit_tuple_str, Br.kit_tuple_tuple, Br.kit_tuple_list, Br.kit_tuple_dict, Br.kit_list_int, Br.kit_list_bool, Br.kit_list_str, Br.kit_list_tuple, Br.kit_list_list, Br.kit_list_dict, Br.kit_dict_int, Br.kit_dict_bool, Br.kit_dict_str, Br.kit_dict_tuple, Br.kit_dict_list, Br.kit_dict_dict, L2.ixN, Br.rng_ok, Br.mul_ok_r, Br.mul_ok_l, LIM, Br.PV.i_int, Br.log2_lt_9000, Br.atI_0, Br.atI_1, Br.atI_2, lcntP, lidxP, bitsP, revP, cntP, sortedDP, minDP, maxDP, sortX, Br.x_try, Br.tryK_nx, Br.tryK_rt, Br.tryK_bk, Br.tryK_ct, Br.suiteX_nx, Br.suiteX_bk, Br.suiteX_ct, Br.suiteX_rt, Br.setX_some, Br.setX_none, Br.goneX_some, Br.goneX_none, Br.x_lock, Br.kLock_d, Br.lockR_nx, Br.lockR_rt, Br.l_callT', Br.v_callT, Br.kT1, Br.kT2, Br.kT3, Br.kT4_eq, Br.dropT_ok, Br.dropT_ex, Br.dropT_st, Br.sh_val, Br.sh_ref, Br.kXt, Br.v_xtup, Br.l_xtup, Br.lockV_s, Br.thin_0, Br.thin_c, Br.thinO_n, Br.thinO_s, Br.thinL_f, Br.thinL_l, Br.thinL_d, Br.thinL_t, Br.noD_n, Br.noD_b, Br.noD_i, Br.noD_s, Br.noD_e, Br.noD_t, Br.noD_x, Br.noD_l, Br.noD_d, Br.noDs_0, Br.noDs_c, Br.noDs_i, bd_law_deal_b321_1, hO, hO2]); all_goals rfl), _, _, _, _, ?_, ho', ho3, rfl⟩
        omega)
    rw [h1]
    exact ⟨a, ha, by simp -implicitDefEqProofs [ioOk, Br.frameOf, lvsOf, Br.exSs_nil, Br.exSs_cons, SO.seq_nx, SO.seq_rt, SO.seq_ex, SO.seq_bk, SO.seq_ct, SO.seq_st, SO.fin_nx, SO.fin_rt, SO.fin_ex, Br.v_app, Br.v_mth, Br.v_tup, Br.v_lst, Br.v_cst, Br.v_dnew, Br.v_var, Br.v_call, Br.v_and, Br.v_or, Br.v_not, Br.v_ite, Br.v_chain, Br.v_sl2, Br.v_comp, Br.v_aref, Br.v_aval, Br.v_as0, Br.v_as, Br.v_es0, Br.v_es, Br.v_tand, Br.v_tor, Br.v_tnot, Br.v_te, Br.v_ts0, Br.v_ts1, Br.v_seq, Br.v_rng1, Br.v_rng2, Br.v_enum, Br.v_zip, Br.v_popE, Br.v_dispV, Br.l_dispV', Br.v_popL, Br.l_popE, Br.l_popL, Br.kPopE_eq, Br.putE_some, Br.putE_none, Br.v_rev, Br.l_app, Br.l_mth', Br.l_lst', Br.l_dnew', Br.l_call', Br.l_comp', Br.l_var, Br.l_cst, Br.l_tup, Br.l_and, Br.l_or, Br.l_not, Br.l_ite, Br.l_chain, Br.l_sl2, Br.x_set, Br.x_unp, Br.x_par, Br.x_setIx, Br.x_app, Br.x_ext, Br.x_popA, Br.x_insA, Br.kPopA, Br.kIns1, Br.kIns2, Br.x_ex, Br.x_ret, Br.x_retV, Br.x_retN, Br.x_if, Br.x_whl, Br.x_brk, Br.x_cont, Br.x_pass, Br.x_raise, Br.kOp, Br.kVal, Br.kCons, Br.kAs, Br.kConsE, Br.kEs, Br.kTup, Br.kLst, Br.kCall, Br.kMth2, Br.kMth, Br.kAnd, Br.kOr, Br.kNot, Br.kIte, Br.kCh4, Br.kCh3, Br.kCh2b, Br.kCh2, Br.kCh1, Br.kS3, Br.kS2, Br.kS1, Br.kC6, Br.kC5, Br.kC4, Br.kC3, Br.kC0, Br.kC2, Br.kC1, Br.kTand, Br.kTor, Br.kTnot, Br.kTe, Br.kSeq, Br.kR1, Br.kR3, Br.kR2, Br.kEn, Br.kZ2, Br.kZ1, Br.kRv, Br.kOwn, Br.kFro, Br.kOwnV, Br.kCallL, Br.kSet, Br.kUnp, Br.kPar, Br.kSI2, Br.kSI1, Br.kApp, Br.kExt, Br.kEx, Br.kRet, Br.kIf, Br.kFor, Br.ifE_t, Br.ifE_f, Br.ifS_t, Br.ifS_f, Br.okE_eq, Br.cF, Br.x_for, ne_eq, reduceCtorEq, not_false_eq_true, implies_true, ER.bind_ok, ER.bind_ex, ER.bind_st, ER.so_ok, ER.so_ex, ER.so_st, ER.of_some, ER.of_none, SO.of_some, SO.of_none, Br.bindS_k, Br.bindK_some, Br.bindK_none, Tg.bind, Tg.binds, at', setIxP, AV.pvs, AV.pv, AV.lvs, AV.lv, AV.refs, AV.back, maskL, LV.isFro, LV.pv, Br.callE_k, Br.callK0_some, Br.callK_ok, Br.callK_ex, froE, Br.opX_add, Br.opX_sub, Br.opX_mul, Br.opX_fdiv, Br.opX_mod, Br.opX_pow, Br.opX_neg, Br.opX_eq, Br.opX_ne, Br.opX_lt, Br.opX_le, Br.opX_gt, Br.opX_ge, Br.opX_isN, Br.opX_isNN, Br.opX_inn, Br.opX_nin, Br.opX_len, Br.opX_sum, Br.opX_abs, Br.opX_int1, Br.opX_str1, Br.opX_tuple1, Br.opX_list1, Br.opX_sorted, Br.opX_allL, Br.opX_anyL, Br.opX_min2, Br.opX_max2, Br.opX_minL, Br.opX_maxL, Br.opX_idx, Br.opX_rev, Br.opX_dget, Br.opX_values, Br.opX_dmod, Br.opX_lcnt, Br.opX_tcnt, Br.opX_lidx, Br.opX_bits, Br.opX_sortedD, Br.opX_minD, Br.opX_maxD, Br.opX_isB, Br.opX_isNB, Br.opX_isTy, Br.opX_slc, Br.opX_isEx, Br.opX_dict1, Br.opX_tupleX, Br.dn_non, Br.dn_bl, Br.dn_int, Br.dn_str, Br.dn_ty, Br.dn_exc, Br.dn_tup, Br.dn_xt, Br.dn_lst, Br.dn_dK, Br.dn_dT, Br.dn_dn, Br.isD_dn, Br.eqP_dnl, Br.eqP_dnr, tupleXP, opSem, addP, subP, mulP, fdivP, modP, powP, negP, eqOP, neOP, ltOP, leOP, gtOP, geOP, isNP, isNNP, isBP, isNBP, PV.isNon, lenP, sumP, absP, int1P, str1P, tuple1P, list1P, min2P, max2P, idxP, slcP, slcPart, dmodP, isTyOP, isTys, isTyP, tyName, ownV, Op.new, wipeE, Br.backE_nil, Br.backE_cons, Br.froO_f, Br.froO_n, Br.froO_0, Br.froO_o, seqOf, parE, ownL, keyP, recvOk, PV.isD, PV.isT, Br.eqP_ii, Br.eqP_ss, Br.eqP_bb, Br.eqP_nn, Br.eqP_tt, Br.eqP_ll, Br.eqPs_00, Br.eqPs_0c, Br.eqPs_c0, Br.eqPs_cc, Br.eqPs_ints, Br.eqP_xl, Br.eqP_xr, Br.eqP_ni, Br.eqP_ns, Br.eqP_nt, Br.eqP_nl, Br.eqP_nb, Br.eqP_in, Br.eqP_is, Br.eqP_it, Br.eqP_il, Br.eqP_sn, Br.eqP_si, Br.eqP_st, Br.eqP_sl, Br.eqP_sb, Br.eqP_tn, Br.eqP_ti, Br.eqP_ts, Br.eqP_tl, Br.eqP_tb, Br.eqP_ln, Br.eqP_li, Br.eqP_ls, Br.eqP_lt, Br.eqP_lb, Br.eqP_bn, Br.eqP_bs, Br.eqP_bt, Br.eqP_bl, intsOf, List.getElem?_cons_zero, List.getElem?_cons_succ, List.getElem?_nil, List.set_cons_zero, List.set_cons_succ, List.map_cons, List.map_nil, List.cons_append, List.nil_append, List.length_cons, List.length_nil, List.replicate_succ, List.replicate_zero, List.append_nil, Option.bind_some, Option.bind_none, Option.map_some, Option.map_none, if_true, if_false, ite_true, ite_false, decide_true, decide_false, Bool.and_true, Bool.true_and, Bool.not_true, Bool.not_false, reduceIte, Option.isSome_some, Br.kit_NoneType_int, Br.kit_NoneType_bool, Br.kit_NoneType_str, Br.kit_NoneType_tuple, Br.kit_NoneType_list, Br.kit_NoneType_dict, Br.kit_bool_int, Br.kit_bool_bool, Br.kit_bool_str, Br.kit_bool_tuple, Br.kit_bool_list, Br.kit_bool_dict, Br.kit_int_int, Br.kit_int_bool, Br.kit_int_str, Br.kit_int_tuple, Br.kit_int_list, Br.kit_int_dict, Br.kit_str_int, Br.kit_str_bool, Br.kit_str_str, Br.kit_str_tuple, Br.kit_str_list, Br.kit_str_dict, Br.kit_tuple_int, Br.kit_tuple_bool, Br.kit_tuple_str, Br.kit_tuple_tuple, Br.kit_tuple_list, Br.kit_tuple_dict, Br.kit_list_int, Br.kit_list_bool, Br.kit_list_str, Br.kit_list_tuple, Br.kit_list_list, Br.kit_list_dict, Br.kit_dict_int, Br.kit_dict_bool, Br.kit_dict_str, Br.kit_dict_tuple, Br.kit_dict_list, Br.kit_dict_dict, L2.ixN, Br.rng_ok, Br.mul_ok_r, Br.mul_ok_l, LIM, Br.PV.i_int, Br.log2_lt_9000, Br.atI_0, Br.atI_1, Br.atI_2, lcntP, lidxP, bitsP, revP, cntP, sortedDP, minDP, maxDP, sortX, Br.x_try, Br.tryK_nx, Br.tryK_rt, Br.tryK_bk, Br.tryK_ct, Br.suiteX_nx, Br.suiteX_bk, Br.suiteX_ct, Br.suiteX_rt, Br.setX_some, Br.setX_none, Br.goneX_some, Br.goneX_none, Br.x_lock, Br.kLock_d, Br.lockR_nx, Br.lockR_rt, Br.l_callT', Br.v_callT, Br.kT1, Br.kT2, Br.kT3, Br.kT4_eq, Br.dropT_ok, Br.dropT_ex, Br.dropT_st, Br.sh_val, Br.sh_ref, Br.kXt, Br.v_xtup, Br.l_xtup, Br.lockV_s, Br.thin_0, Br.thin_c, Br.thinO_n, Br.thinO_s, Br.thinL_f, Br.thinL_l, Br.thinL_d, Br.thinL_t, Br.noD_n, Br.noD_b, Br.noD_i, Br.noD_s, Br.noD_e, Br.noD_t, Br.noD_x, Br.noD_l, Br.noD_d, Br.noDs_0, Br.noDs_c, Br.noDs_i]⟩
end Cm
set_option maxHeartbeats 0
namespace Cm
open PySem Br
def ir_law_take_9d40 : Fn := ⟨3, 2, [0, 1], [.unp (.tup [.at 0 0, .one 2]) (.app .dmod [.val (.app .idx [.ref 0, .val (.cst (.int 0))]), .ref 1]), .retV 2]⟩
def ph_law_take_9d40 : Nat → List LV → CR := fun j => match j with | _ => fun _ => .st
def g_law_take_9d40 : List LV → CR := runFn ph_law_take_9d40 1000000 ir_law_take_9d40
theorem take_9d40 {a m : Int} (ha : 0 ≤ a) (hm : 0 < m) (hl : m ≤ 2 ^ 250) : ∃ q a' : Int, 0 ≤ q ∧ q < m ∧ 0 ≤ a' ∧ g_law_take_9d40 [.own (.lst [.int a]), .fro (.int m)] = .ok (.fro (.int q)) [.own (.lst [.int a']), .fro (.int m)] := by
  (unfold g_law_take_9d40 ir_law_take_9d40; rw [runFn_eq _ _ _ _ ⟨rfl, by decide, rfl⟩])
  have hml : m.natAbs.log2 < 9000 := log2_lt_9000 (by omega)
  exact ⟨a % m, a / m, Int.emod_nonneg a (by omega), Int.emod_lt_of_pos a hm, Int.ediv_nonneg ha (by omega), by simp -implicitDefEqProofs [ioOk, Br.frameOf, lvsOf, Br.exSs_nil, Br.exSs_cons, SO.seq_nx, SO.seq_rt, SO.seq_ex, SO.seq_bk, SO.seq_ct, SO.seq_st, SO.fin_nx, SO.fin_rt, SO.fin_ex, Br.v_app, Br.v_mth, Br.v_tup, Br.v_lst, Br.v_cst, Br.v_dnew, Br.v_var, Br.v_call, Br.v_and, Br.v_or, Br.v_not, Br.v_ite, Br.v_chain, Br.v_sl2, Br.v_comp, Br.v_aref, Br.v_aval, Br.v_as0, Br.v_as, Br.v_es0, Br.v_es, Br.v_tand, Br.v_tor, Br.v_tnot, Br.v_te, Br.v_ts0, Br.v_ts1, Br.v_seq, Br.v_rng1, Br.v_rng2, Br.v_enum, Br.v_zip, Br.v_popE, Br.v_dispV, Br.l_dispV', Br.v_popL, Br.l_popE, Br.l_popL, Br.kPopE_eq, Br.putE_some, Br.putE_none, Br.v_rev, Br.l_app, Br.l_mth', Br.l_lst', Br.l_dnew', Br.l_call', Br.l_comp', Br.l_var, Br.l_cst, Br.l_tup, Br.l_and, Br.l_or, Br.l_not, Br.l_ite, Br.l_chain, Br.l_sl2, Br.x_set, Br.x_unp, Br.x_par, Br.x_setIx, Br.x_app, Br.x_ext, Br.x_popA, Br.x_insA, Br.kPopA, Br.kIns1, Br.kIns2, Br.x_ex, Br.x_ret, Br.x_retV, Br.x_retN, Br.x_if, Br.x_whl, Br.x_brk, Br.x_cont, Br.x_pass, Br.x_raise, Br.kOp, Br.kVal, Br.kCons, Br.kAs, Br.kConsE, Br.kEs, Br.kTup, Br.kLst, Br.kCall, Br.kMth2, Br.kMth, Br.kAnd, Br.kOr, Br.kNot, Br.kIte, Br.kCh4, Br.kCh3, Br.kCh2b, Br.kCh2, Br.kCh1, Br.kS3, Br.kS2, Br.kS1, Br.kC6, Br.kC5, Br.kC4, Br.kC3, Br.kC0, Br.kC2, Br.kC1, Br.kTand, Br.kTor, Br.kTnot, Br.kTe, Br.kSeq, Br.kR1, Br.kR3, Br.kR2, Br.kEn, Br.kZ2, Br.kZ1, Br.kRv, Br.kOwn, Br.kFro, Br.kOwnV, Br.kCallL, Br.kSet, Br.kUnp, Br.kPar, Br.kSI2, Br.kSI1, Br.kApp, Br.kExt, Br.kEx, Br.kRet, Br.kIf, Br.kFor, Br.ifE_t, Br.ifE_f, Br.ifS_t, Br.ifS_f, Br.okE_eq, Br.cF, Br.x_for, ne_eq, reduceCtorEq, not_false_eq_true, implies_true, ER.bind_ok, ER.bind_ex, ER.bind_st, ER.so_ok, ER.so_ex, ER.so_st, ER.of_some, ER.of_none, SO.of_some, SO.of_none, Br.bindS_k, Br.bindK_some, Br.bindK_none, Tg.bind, Tg.binds, at', setIxP, AV.pvs, AV.pv, AV.lvs, AV.lv, AV.refs, AV.back, maskL, LV.isFro, LV.pv, Br.callE_k, Br.callK0_some, Br.callK_ok, Br.callK_ex, froE, Br.opX_add, Br.opX_sub, Br.opX_mul, Br.opX_fdiv, Br.opX_mod, Br.opX_pow, Br.opX_neg, Br.opX_eq, Br.opX_ne, Br.opX_lt, Br.opX_le, Br.opX_gt, Br.opX_ge, Br.opX_isN, Br.opX_isNN, Br.opX_inn, Br.opX_nin, Br.opX_len, Br.opX_sum, Br.opX_abs, Br.opX_int1, Br.opX_str1, Br.opX_tuple1, Br.opX_list1, Br.opX_sorted, Br.opX_allL, Br.opX_anyL, Br.opX_min2, Br.opX_max2, Br.opX_minL, Br.opX_maxL, Br.opX_idx, Br.opX_rev, Br.opX_dget, Br.opX_values, Br.opX_dmod, Br.opX_lcnt, Br.opX_tcnt, Br.opX_lidx, Br.opX_bits, Br.opX_sortedD, Br.opX_minD, Br.opX_maxD, Br.opX_isB, Br.opX_isNB, Br.opX_isTy, Br.opX_slc, Br.opX_isEx, Br.opX_dict1, Br.opX_tupleX, Br.dn_non, Br.dn_bl, Br.dn_int, Br.dn_str, Br.dn_ty, Br.dn_exc, Br.dn_tup, Br.dn_xt, Br.dn_lst, Br.dn_dK, Br.dn_dT, Br.dn_dn, Br.isD_dn, Br.eqP_dnl, Br.eqP_dnr, tupleXP, opSem, addP, subP, mulP, fdivP, modP, powP, negP, eqOP, neOP, ltOP, leOP, gtOP, geOP, isNP, isNNP, isBP, isNBP, PV.isNon, lenP, sumP, absP, int1P, str1P, tuple1P, list1P, min2P, max2P, idxP, slcP, slcPart, dmodP, isTyOP, isTys, isTyP, tyName, ownV, Op.new, wipeE, Br.backE_nil, Br.backE_cons, Br.froO_f, Br.froO_n, Br.froO_0, Br.froO_o, seqOf, parE, ownL, keyP, recvOk, PV.isD, PV.isT, Br.eqP_ii, Br.eqP_ss, Br.eqP_bb, Br.eqP_nn, Br.eqP_tt, Br.eqP_ll, Br.eqPs_00, Br.eqPs_0c, Br.eqPs_c0, Br.eqPs_cc, Br.eqPs_ints, Br.eqP_xl, Br.eqP_xr, Br.eqP_ni, Br.eqP_ns, Br.eqP_nt, Br.eqP_nl, Br.eqP_nb, Br.eqP_in, Br.eqP_is, Br.eqP_it, Br.eqP_il, Br.eqP_sn, Br.eqP_si, Br.eqP_st, Br.eqP_sl, Br.eqP_sb, Br.eqP_tn, Br.eqP_ti, Br.eqP_ts, Br.eqP_tl, Br.eqP_tb, Br.eqP_ln, Br.eqP_li, Br.eqP_ls, Br.eqP_lt, Br.eqP_lb, Br.eqP_bn, Br.eqP_bs, Br.eqP_bt, Br.eqP_bl, intsOf, List.getElem?_cons_zero, List.getElem?_cons_succ, List.getElem?_nil, List.set_cons_zero, List.set_cons_succ, List.map_cons, List.map_nil, List.cons_append, List.nil_append, List.length_cons, List.length_nil, List.replicate_succ, List.replicate_zero, List.append_nil, Option.bind_some, Option.bind_none, Option.map_some, Option.map_none, if_true, if_false, ite_true, ite_false, decide_true, decide_false, Bool.and_true, Bool.true_and, Bool.not_true, Bool.not_false, reduceIte, Option.isSome_some, Br.kit_NoneType_int, Br.kit_NoneType_bool, Br.kit_NoneType_str, Br.kit_NoneType_tuple, Br.kit_NoneType_list, Br.kit_NoneType_dict, Br.kit_bool_int, Br.kit_bool_bool, Br.kit_bool_str, Br.kit_bool_tuple, Br.kit_bool_list, Br.kit_bool_dict, Br.kit_int_int, Br.kit_int_bool, Br.kit_int_str, Br.kit_int_tuple, Br.kit_int_list, Br.kit_int_dict, Br.kit_str_int, Br.kit_str_bool, Br.kit_str_str, Br.kit_str_tuple, Br.kit_str_list, Br.kit_str_dict, Br.kit_tuple_int, Br.kit_tuple_bool, Br.kit_tuple_str, Br.kit_tuple_tuple, Br.kit_tuple_list, Br.kit_tuple_dict, Br.kit_list_int, Br.kit_list_bool, Br.kit_list_str, Br.kit_list_tuple, Br.kit_list_list, Br.kit_list_dict, Br.kit_dict_int, Br.kit_dict_bool, Br.kit_dict_str, Br.kit_dict_tuple, Br.kit_dict_list, Br.kit_dict_dict, L2.ixN, Br.rng_ok, Br.mul_ok_r, Br.mul_ok_l, LIM, Br.PV.i_int, Br.log2_lt_9000, Br.atI_0, Br.atI_1, Br.atI_2, lcntP, lidxP, bitsP, revP, cntP, sortedDP, minDP, maxDP, sortX, Br.x_try, Br.tryK_nx, Br.tryK_rt, Br.tryK_bk, Br.tryK_ct, Br.suiteX_nx, Br.suiteX_bk, Br.suiteX_ct, Br.suiteX_rt, Br.setX_some, Br.setX_none, Br.goneX_some, Br.goneX_none, Br.x_lock, Br.kLock_d, Br.lockR_nx, Br.lockR_rt, Br.l_callT', Br.v_callT, Br.kT1, Br.kT2, Br.kT3, Br.kT4_eq, Br.dropT_ok, Br.dropT_ex, Br.dropT_st, Br.sh_val, Br.sh_ref, Br.kXt, Br.v_xtup, Br.l_xtup, Br.lockV_s, Br.thin_0, Br.thin_c, Br.thinO_n, Br.thinO_s, Br.thinL_f, Br.thinL_l, Br.thinL_d, Br.thinL_t, Br.noD_n, Br.noD_b, Br.noD_i, Br.noD_s, Br.noD_e, Br.noD_t, Br.noD_x, Br.noD_l, Br.noD_d, Br.noDs_0, Br.noDs_c, Br.noDs_i, hm, hml]⟩
end Cm
set_option maxHeartbeats 0
namespace Cm
open PySem Br
theorem rngP_mem {a b : Int} {x : PV} (h : x ∈ rngP a b) : ∃ i : Int, x = .int i ∧ a ≤ i ∧ i < b := by
  obtain ⟨i, hi⟩ := List.mem_iff_getElem?.mp h
  obtain ⟨rfl, h2⟩ := rngP_at hi
  exact ⟨_, rfl, by omega, by omega⟩
theorem rngP_0 (k : Int) : rngP 0 k = ((List.range k.toNat).map fun (i : Nat) => (i : Int)).map PV.int := by
  unfold rngP
  rw [Int.sub_zero, List.map_map]
  simp [Function.comp_def]
theorem cutP_13 (a b c : PV) : cutP [a, b, c] (some 1) none = [b, c] := rfl
theorem blsOf_true {α : Type} (l : List α) : blsOf (l.map fun _ => PV.bl true) = some (l.map fun _ => true) := by
  induction l with
  | nil => rfl
  | cons x l ih => simp [blsOf, ih]
theorem allL_true {α : Type} (l : List α) : allLP [.lst (l.map fun _ => PV.bl true)] = some (.bl true) := by
  show (blsOf (l.map fun _ => PV.bl true)).map (fun ns => PV.bl (ns.all id)) = _
  rw [blsOf_true]
  simp
theorem isD_ints (n : Nat) (l : List Int) : (l.map PV.int).all (PV.isD n) = true := by
  rw [List.all_map, List.all_eq_true]
  intro x _
  show PV.isD n (.int x) = true
  unfold PV.isD
  rfl
theorem allL_2 : allLP [.lst [.bl true, .bl true]] = some (.bl true) := rfl
theorem isT_ints (n : Nat) (l : List Int) : (l.map PV.int).all (PV.isT n) = true := by
  rw [List.all_map, List.all_eq_true]
  intro x _
  show PV.isT n (.int x) = true
  unfold PV.isT
  rfl
end Cm
set_option maxHeartbeats 0
namespace Cm
open PySem Br
def el_used_of_c33a_1 : Br.Ex := .app .min2 [.ref 2, .ref 1]
def ir_used_of_c33a : Fn := ⟨3, 2, [0, 1], [.ret (.comp (.seq (.var 0)) (.one 2) [2] [] el_used_of_c33a_1)]⟩
def ph_used_of_c33a : Nat → List LV → CR := fun j => match j with | _ => fun _ => .st
def g_used_of_c33a : List LV → CR := runFn ph_used_of_c33a 1000000 ir_used_of_c33a
-- use: U_list
theorem used_c33a (cs : List Int) (m : Int) (hl : cs.length ≤ 1000000) : g_used_of_c33a [.fro (.tup (cs.map .int)), .fro (.int m)] = .ok (.own (.lst (cs.map fun c => .int (if m < c then m else c)))) [.fro (.tup (cs.map .int)), .fro (.int m)] := by
  (unfold g_used_of_c33a ir_used_of_c33a; rw [runFn_eq _ _ _ _ ⟨rfl, by decide, rfl⟩])
  simp -implicitDefEqProofs [ioOk, Br.frameOf, lvsOf, Br.exSs_nil, Br.exSs_cons, SO.seq_nx, SO.seq_rt, SO.seq_ex, SO.seq_bk, SO.seq_ct, SO.seq_st, SO.fin_nx, SO.fin_rt, SO.fin_ex, Br.v_app, Br.v_mth, Br.v_tup, Br.v_lst, Br.v_cst, Br.v_dnew, Br.v_var, Br.v_call, Br.v_and, Br.v_or, Br.v_not, Br.v_ite, Br.v_chain, Br.v_sl2, Br.v_comp, Br.v_aref, Br.v_aval, Br.v_as0, Br.v_as, Br.v_es0, Br.v_es, Br.v_tand, Br.v_tor, Br.v_tnot, Br.v_te, Br.v_ts0, Br.v_ts1, Br.v_seq, Br.v_rng1, Br.v_rng2, Br.v_enum, Br.v_zip, Br.v_popE, Br.v_dispV, Br.l_dispV', Br.v_popL, Br.l_popE, Br.l_popL, Br.kPopE_eq, Br.putE_some, Br.putE_none, Br.v_rev, Br.l_app, Br.l_mth', Br.l_lst', Br.l_dnew', Br.l_call', Br.l_comp', Br.l_var, Br.l_cst, Br.l_tup, Br.l_and, Br.l_or, Br.l_not, Br.l_ite, Br.l_chain, Br.l_sl2, Br.x_set, Br.x_unp, Br.x_par, Br.x_setIx, Br.x_app, Br.x_ext, Br.x_popA, Br.x_insA, Br.kPopA, Br.kIns1, Br.kIns2, Br.x_ex, Br.x_ret, Br.x_retV, Br.x_retN, Br.x_if, Br.x_whl, Br.x_brk, Br.x_cont, Br.x_pass, Br.x_raise, Br.kOp, Br.kVal, Br.kCons, Br.kAs, Br.kConsE, Br.kEs, Br.kTup, Br.kLst, Br.kCall, Br.kMth2, Br.kMth, Br.kAnd, Br.kOr, Br.kNot, Br.kIte, Br.kCh4, Br.kCh3, Br.kCh2b, Br.kCh2, Br.kCh1, Br.kS3, Br.kS2, Br.kS1, Br.kC6, Br.kC5, Br.kC4, Br.kC3, Br.kC0, Br.kC2, Br.kC1, Br.kTand, Br.kTor, Br.kTnot, Br.kTe, Br.kSeq, Br.kR1, Br.kR3, Br.kR2, Br.kEn, Br.kZ2, Br.kZ1, Br.kRv, Br.kOwn, Br.kFro, Br.kOwnV, Br.kCallL, Br.kSet, Br.kUnp, Br.kPar, Br.kSI2, Br.kSI1, Br.kApp, Br.kExt, Br.kEx, Br.kRet, Br.kIf, Br.kFor, Br.ifE_t, Br.ifE_f, Br.ifS_t, Br.ifS_f, Br.okE_eq, Br.cF, Br.x_for, ne_eq, reduceCtorEq, not_false_eq_true, implies_true, ER.bind_ok, ER.bind_ex, ER.bind_st, ER.so_ok, ER.so_ex, ER.so_st, ER.of_some, ER.of_none, SO.of_some, SO.of_none, Br.bindS_k, Br.bindK_some, Br.bindK_none, Tg.bind, Tg.binds, at', setIxP, AV.pvs, AV.pv, AV.lvs, AV.lv, AV.refs, AV.back, maskL, LV.isFro, LV.pv, Br.callE_k, Br.callK0_some, Br.callK_ok, Br.callK_ex, froE, Br.opX_add, Br.opX_sub, Br.opX_mul, Br.opX_fdiv, Br.opX_mod, Br.opX_pow, Br.opX_neg, Br.opX_eq, Br.opX_ne, Br.opX_lt, Br.opX_le, Br.opX_gt, Br.opX_ge, Br.opX_isN, Br.opX_isNN, Br.opX_inn, Br.opX_nin, Br.opX_len, Br.opX_sum, Br.opX_abs, Br.opX_int1, Br.opX_str1, Br.opX_tuple1, Br.opX_list1, Br.opX_sorted, Br.opX_allL, Br.opX_anyL, Br.opX_min2, Br.opX_max2, Br.opX_minL, Br.opX_maxL, Br.opX_idx, Br.opX_rev, Br.opX_dget, Br.opX_values, Br.opX_dmod, Br.opX_lcnt, Br.opX_tcnt, Br.opX_lidx, Br.opX_bits, Br.opX_sortedD, Br.opX_minD, Br.opX_maxD, Br.opX_isB, Br.opX_isNB, Br.opX_isTy, Br.opX_slc, Br.opX_isEx, Br.opX_dict1, Br.opX_tupleX, Br.dn_non, Br.dn_bl, Br.dn_int, Br.dn_str, Br.dn_ty, Br.dn_exc, Br.dn_tup, Br.dn_xt, Br.dn_lst, Br.dn_dK, Br.dn_dT, Br.dn_dn, Br.isD_dn, Br.eqP_dnl, Br.eqP_dnr, tupleXP, opSem, addP, subP, mulP, fdivP, modP, powP, negP, eqOP, neOP, ltOP, leOP, gtOP, geOP, isNP, isNNP, isBP, isNBP, PV.isNon, lenP, sumP, absP, int1P, str1P, tuple1P, list1P, min2P, max2P, idxP, slcP, slcPart, dmodP, isTyOP, isTys, isTyP, tyName, ownV, Op.new, wipeE, Br.backE_nil, Br.backE_cons, Br.froO_f, Br.froO_n, Br.froO_0, Br.froO_o, seqOf, parE, ownL, keyP, recvOk, PV.isD, PV.isT, Br.eqP_ii, Br.eqP_ss, Br.eqP_bb, Br.eqP_nn, Br.eqP_tt, Br.eqP_ll, Br.eqPs_00, Br.eqPs_0c, Br.eqPs_c0, Br.eqPs_cc, Br.eqPs_ints, Br.eqP_xl, Br.eqP_xr, Br.eqP_ni, Br.eqP_ns, Br.eqP_nt, Br.eqP_nl, Br.eqP_nb, Br.eqP_in, Br.eqP_is, Br.eqP_it, Br.eqP_il, Br.eqP_sn, Br.eqP_si, Br.eqP_st, Br.eqP_sl, Br.eqP_sb, Br.eqP_tn, Br.eqP_ti, Br.eqP_ts, Br.eqP_tl, Br.eqP_tb, Br.eqP_ln, Br.eqP_li, Br.eqP_ls, Br.eqP_lt, Br.eqP_lb, Br.eqP_bn, Br.eqP_bs, Br.eqP_bt, Br.eqP_bl, intsOf, List.getElem?_cons_zero, List.getElem?_cons_succ, List.getElem?_nil, List.set_cons_zero, List.set_cons_succ, List.map_cons, List.map_nil, List.cons_append, List.nil_append, List.length_cons, List.length_nil, List.replicate_succ, List.replicate_zero, List.append_nil, Option.bind_some, Option.bind_none, Option.map_some, Option.map_none, if_true, if_false, ite_true, ite_false, decide_true, decide_false, Bool.and_true, Bool.true_and, Bool.not_true, Bool.not_false, reduceIte, Option.isSome_some, Br.kit_NoneType_int, Br.kit_NoneType_bool, Br.kit_NoneType_str, Br.kit_NoneType_tuple, Br.kit_NoneType_list, Br.kit_NoneType_dict, Br.kit_bool_int, Br.kit_bool_bool, Br.kit_bool_str, Br.kit_bool_tuple, Br.kit_bool_list, Br.kit_bool_dict, Br.kit_int_int, Br.kit_int_bool, Br.kit_int_str, Br.kit_int_tuple, Br.kit_int_list, Br.kit_int_dict, Br.kit_str_int, Br.kit_str_bool, Br.kit_str_str, Br.kit_str_tuple, Br.kit_str_list, Br.kit_str_dict, Br.kit_tuple_int, Br.kit_tuple_bool, Br.kit_tuple_str, Br.kit_tuple_tuple, Br.kit_tuple_list, Br.kit_tuple_dict, Br.kit_list_int, Br.kit_list_bool, Br.kit_list_str, Br.kit_list_tuple, Br.kit_list_list, Br.kit_list_dict, Br.kit_dict_int, Br.kit_dict_bool, Br.kit_dict_str, Br.kit_dict_tuple, Br.kit_dict_list, Br.kit_dict_dict, L2.ixN, Br.rng_ok, Br.mul_ok_r, Br.mul_ok_l, LIM, Br.PV.i_int, Br.log2_lt_9000, Br.atI_0, Br.atI_1, Br.atI_2, lcntP, lidxP, bitsP, revP, cntP, sortedDP, minDP, maxDP, sortX, Br.x_try, Br.tryK_nx, Br.tryK_rt, Br.tryK_bk, Br.tryK_ct, Br.suiteX_nx, Br.suiteX_bk, Br.suiteX_ct, Br.suiteX_rt, Br.setX_some, Br.setX_none, Br.goneX_some, Br.goneX_none, Br.x_lock, Br.kLock_d, Br.lockR_nx, Br.lockR_rt, Br.l_callT', Br.v_callT, Br.kT1, Br.kT2, Br.kT3, Br.kT4_eq, Br.dropT_ok, Br.dropT_ex, Br.dropT_st, Br.sh_val, Br.sh_ref, Br.kXt, Br.v_xtup, Br.l_xtup, Br.lockV_s, Br.thin_0, Br.thin_c, Br.thinO_n, Br.thinO_s, Br.thinL_f, Br.thinL_l, Br.thinL_d, Br.thinL_t, Br.noD_n, Br.noD_b, Br.noD_i, Br.noD_s, Br.noD_e, Br.noD_t, Br.noD_x, Br.noD_l, Br.noD_d, Br.noDs_0, Br.noDs_c, Br.noDs_i, hl]
  rw [compL_map (h := fun p => .int (if m < p.i then m else p.i))]
  · simp -implicitDefEqProofs [ioOk, Br.frameOf, lvsOf, Br.exSs_nil, Br.exSs_cons, SO.seq_nx, SO.seq_rt, SO.seq_ex, SO.seq_bk, SO.seq_ct, SO.seq_st, SO.fin_nx, SO.fin_rt, SO.fin_ex, Br.v_app, Br.v_mth, Br.v_tup, Br.v_lst, Br.v_cst, Br.v_dnew, Br.v_var, Br.v_call, Br.v_and, Br.v_or, Br.v_not, Br.v_ite, Br.v_chain, Br.v_sl2, Br.v_comp, Br.v_aref, Br.v_aval, Br.v_as0, Br.v_as, Br.v_es0, Br.v_es, Br.v_tand, Br.v_tor, Br.v_tnot, Br.v_te, Br.v_ts0, Br.v_ts1, Br.v_seq, Br.v_rng1, Br.v_rng2, Br.v_enum, Br.v_zip, Br.v_popE, Br.v_dispV, Br.l_dispV', Br.v_popL, Br.l_popE, Br.l_popL, Br.kPopE_eq, Br.putE_some, Br.putE_none, Br.v_rev, Br.l_app, Br.l_mth', Br.l_lst', Br.l_dnew', Br.l_call', Br.l_comp', Br.l_var, Br.l_cst, Br.l_tup, Br.l_and, Br.l_or, Br.l_not, Br.l_ite, Br.l_chain, Br.l_sl2, Br.x_set, Br.x_unp, Br.x_par, Br.x_setIx, Br.x_app, Br.x_ext, Br.x_popA, Br.x_insA, Br.kPopA, Br.kIns1, Br.kIns2, Br.x_ex, Br.x_ret, Br.x_retV, Br.x_retN, Br.x_if, Br.x_whl, Br.x_brk, Br.x_cont, Br.x_pass, Br.x_raise, Br.kOp, Br.kVal, Br.kCons, Br.kAs, Br.kConsE, Br.kEs, Br.kTup, Br.kLst, Br.kCall, Br.kMth2, Br.kMth, Br.kAnd, Br.kOr, Br.kNot, Br.kIte, Br.kCh4, Br.kCh3, Br.kCh2b, Br.kCh2, Br.kCh1, Br.kS3, Br.kS2, Br.kS1, Br.kC6, Br.kC5, Br.kC4, Br.kC3, Br.kC0, Br.kC2, Br.kC1, Br.kTand, Br.kTor, Br.kTnot, Br.kTe, Br.kSeq, Br.kR1, Br.kR3, Br.kR2, Br.kEn, Br.kZ2, Br.kZ1, Br.kRv, Br.kOwn, Br.kFro, Br.kOwnV, Br.kCallL, Br.kSet, Br.kUnp, Br.kPar, Br.kSI2, Br.kSI1, Br.kApp, Br.kExt, Br.kEx, Br.kRet, Br.kIf, Br.kFor, Br.ifE_t, Br.ifE_f, Br.ifS_t, Br.ifS_f, Br.okE_eq, Br.cF, Br.x_for, ne_eq, reduceCtorEq, not_false_eq_true, implies_true, ER.bind_ok, ER.bind_ex, ER.bind_st, ER.so_ok, ER.so_ex, ER.so_st, ER.of_some, ER.of_none, SO.of_some, SO.of_none, Br.bindS_k, Br.bindK_some, Br.bindK_none, Tg.bind, Tg.binds, at', setIxP, AV.pvs, AV.pv, AV.lvs, AV.lv, AV.refs, AV.back, maskL, LV.isFro, LV.pv, Br.callE_k, Br.callK0_some, Br.callK_ok, Br.callK_ex, froE, Br.opX_add, Br.opX_sub, Br.opX_mul, Br.opX_fdiv, Br.opX_mod, Br.opX_pow, Br.opX_neg, Br.opX_eq, Br.opX_ne, Br.opX_lt, Br.opX_le, Br.opX_gt, Br.opX_ge, Br.opX_isN, Br.opX_isNN, Br.opX_inn, Br.opX_nin, Br.opX_len, Br.opX_sum, Br.opX_abs, Br.opX_int1, Br.opX_str1, Br.opX_tuple1, Br.opX_list1, Br.opX_sorted, Br.opX_allL, Br.opX_anyL, Br.opX_min2, Br.opX_max2, Br.opX_minL, Br.opX_maxL, Br.opX_idx, Br.opX_rev, Br.opX_dget, Br.opX_values, Br.opX_dmod, Br.opX_lcnt, Br.opX_tcnt, Br.opX_lidx, Br.opX_bits, Br.opX_sortedD, Br.opX_minD, Br.opX_maxD, Br.opX_isB, Br.opX_isNB, Br.opX_isTy, Br.opX_slc, Br.opX_isEx, Br.opX_dict1, Br.opX_tupleX, Br.dn_non, Br.dn_bl, Br.dn_int, Br.dn_str, Br.dn_ty, Br.dn_exc, Br.dn_tup, Br.dn_xt, Br.dn_lst, Br.dn_dK, Br.dn_dT, Br.dn_dn, Br.isD_dn, Br.eqP_dnl, Br.eqP_dnr, tupleXP, opSem, addP, subP, mulP, fdivP, modP, powP, negP, eqOP, neOP, ltOP, leOP, gtOP, geOP, isNP, isNNP, isBP, isNBP, PV.isNon, lenP, sumP, absP, int1P, str1P, tuple1P, list1P, min2P, max2P, idxP, slcP, slcPart, dmodP, isTyOP, isTys, isTyP, tyName, ownV, Op.new, wipeE, Br.backE_nil, Br.backE_cons, Br.froO_f, Br.froO_n, Br.froO_0, Br.froO_o, seqOf, parE, ownL, keyP, recvOk, PV.isD, PV.isT, Br.eqP_ii, Br.eqP_ss, Br.eqP_bb, Br.eqP_nn, Br.eqP_tt, Br.eqP_ll, Br.eqPs_00, Br.eqPs_0c, Br.eqPs_c0, Br.eqPs_cc, Br.eqPs_ints, Br.eqP_xl, Br.eqP_xr, Br.eqP_ni, Br.eqP_ns, Br.eqP_nt, Br.eqP_nl, Br.eqP_nb, Br.eqP_in, Br.eqP_is, Br.eqP_it, Br.eqP_il, Br.eqP_sn, Br.eqP_si, Br.eqP_st, Br.eqP_sl, Br.eqP_sb, Br.eqP_tn, Br.eqP_ti, Br.eqP_ts, Br.eqP_tl, Br.eqP_tb, Br.eqP_ln, Br.eqP_li, Br.eqP_ls, Br.eqP_lt, Br.eqP_lb, Br.eqP_bn, Br.eqP_bs, Br.eqP_bt, Br.eqP_bl, intsOf, List.getElem?_cons_zero, List.getElem?_cons_succ, List.getElem?_nil, List.set_cons_zero, List.set_cons_succ, List.map_cons, List.map_nil, List.cons_append, List.nil_append, List.length_cons, List.length_nil, List.replicate_succ, List.replicate_zero, List.append_nil, Option.bind_some, Option.bind_none, Option.map_some, Option.map_none, if_true, if_false, ite_true, ite_false, decide_true, decide_false, Bool.and_true, Bool.true_and, Bool.not_true, Bool.not_false, reduceIte, Option.isSome_some, Br.kit_NoneType_int, Br.kit_NoneType_bool, Br.kit_NoneType_str, Br.kit_NoneType_tuple, Br.kit_NoneType_list, Br.kit_NoneType_dict, Br.kit_bool_int, Br.kit_bool_bool, Br.kit_bool_str, Br.kit_bool_tuple, Br.kit_bool_list, Br.kit_bool_dict, Br.kit_int_int, Br.kit_int_bool, Br.kit_int_str, Br.kit_int_tuple, Br.kit_int_list, Br.kit_int_dict, Br.kit_str_int, Br.kit_str_bool, Br.kit_str_str, Br.kit_str_tuple, Br.kit_str_list, Br.kit_str_dict, Br.kit_tuple_int, Br.kit_tuple_bool, Br.kit_tuple_str, Br.kit_tuple_tuple, Br.kit_tuple_list, Br.kit_tuple_dict, Br.kit_list_int, Br.kit_list_bool, Br.kit_list_str, Br.kit_list_tuple, Br.kit_list_list, Br.kit_list_dict, Br.kit_dict_int, Br.kit_dict_bool, Br.kit_dict_str, Br.kit_dict_tuple, Br.kit_dict_list, Br.kit_dict_dict, L2.ixN, Br.rng_ok, Br.mul_ok_r, Br.mul_ok_l, LIM, Br.PV.i_int, Br.log2_lt_9000, Br.atI_0, Br.atI_1, Br.atI_2, lcntP, lidxP, bitsP, revP, cntP, sortedDP, minDP, maxDP, sortX, Br.x_try, Br.tryK_nx, Br.tryK_rt, Br.tryK_bk, Br.tryK_ct, Br.suiteX_nx, Br.suiteX_bk, Br.suiteX_ct, Br.suiteX_rt, Br.setX_some, Br.setX_none, Br.goneX_some, Br.goneX_none, Br.x_lock, Br.kLock_d, Br.lockR_nx, Br.lockR_rt, Br.l_callT', Br.v_callT, Br.kT1, Br.kT2, Br.kT3, Br.kT4_eq, Br.dropT_ok, Br.dropT_ex, Br.dropT_st, Br.sh_val, Br.sh_ref, Br.kXt, Br.v_xtup, Br.l_xtup, Br.lockV_s, Br.thin_0, Br.thin_c, Br.thinO_n, Br.thinO_s, Br.thinL_f, Br.thinL_l, Br.thinL_d, Br.thinL_t, Br.noD_n, Br.noD_b, Br.noD_i, Br.noD_s, Br.noD_e, Br.noD_t, Br.noD_x, Br.noD_l, Br.noD_d, Br.noDs_0, Br.noDs_c, Br.noDs_i, Function.comp_def]
    all_goals (intros; congr)
  · intro x hx
    obtain ⟨c, _, rfl⟩ := List.mem_map.mp hx
    simp -implicitDefEqProofs [ioOk, Br.frameOf, lvsOf, Br.exSs_nil, Br.exSs_cons, SO.seq_nx, SO.seq_rt, SO.seq_ex, SO.seq_bk, SO.seq_ct, SO.seq_st, SO.fin_nx, SO.fin_rt, SO.fin_ex, Br.v_app, Br.v_mth, Br.v_tup, Br.v_lst, Br.v_cst, Br.v_dnew, Br.v_var, Br.v_call, Br.v_and, Br.v_or, Br.v_not, Br.v_ite, Br.v_chain, Br.v_sl2, Br.v_comp, Br.v_aref, Br.v_aval, Br.v_as0, Br.v_as, Br.v_es0, Br.v_es, Br.v_tand, Br.v_tor, Br.v_tnot, Br.v_te, Br.v_ts0, Br.v_ts1, Br.v_seq, Br.v_rng1, Br.v_rng2, Br.v_enum, Br.v_zip, Br.v_popE, Br.v_dispV, Br.l_dispV', Br.v_popL, Br.l_popE, Br.l_popL, Br.kPopE_eq, Br.putE_some, Br.putE_none, Br.v_rev, Br.l_app, Br.l_mth', Br.l_lst', Br.l_dnew', Br.l_call', Br.l_comp', Br.l_var, Br.l_cst, Br.l_tup, Br.l_and, Br.l_or, Br.l_not, Br.l_ite, Br.l_chain, Br.l_sl2, Br.x_set, Br.x_unp, Br.x_par, Br.x_setIx, Br.x_app, Br.x_ext, Br.x_popA, Br.x_insA, Br.kPopA, Br.kIns1, Br.kIns2, Br.x_ex, Br.x_ret, Br.x_retV, Br.x_retN, Br.x_if, Br.x_whl, Br.x_brk, Br.x_cont, Br.x_pass, Br.x_raise, Br.kOp, Br.kVal, Br.kCons, Br.kAs, Br.kConsE, Br.kEs, Br.kTup, Br.kLst, Br.kCall, Br.kMth2, Br.kMth, Br.kAnd, Br.kOr, Br.kNot, Br.kIte, Br.kCh4, Br.kCh3, Br.kCh2b, Br.kCh2, Br.kCh1, Br.kS3, Br.kS2, Br.kS1, Br.kC6, Br.kC5, Br.kC4, Br.kC3, Br.kC0, Br.kC2, Br.kC1, Br.kTand, Br.kTor, Br.kTnot, Br.kTe, Br.kSeq, Br.kR1, Br.kR3, Br.kR2, Br.kEn, Br.kZ2, Br.kZ1, Br.kRv, Br.kOwn, Br.kFro, Br.kOwnV, Br.kCallL, Br.kSet, Br.kUnp, Br.kPar, Br.kSI2, Br.kSI1, Br.kApp, Br.kExt, Br.kEx, Br.kRet, Br.kIf, Br.kFor, Br.ifE_t, Br.ifE_f, Br.ifS_t, Br.ifS_f, Br.okE_eq, Br.cF, Br.x_for, ne_eq, reduceCtorEq, not_false_eq_true, implies_true, ER.bind_ok, ER.bind_ex, ER.bind_st, ER.so_ok, ER.so_ex, ER.so_st, ER.of_some, ER.of_none, SO.of_some, SO.of_none, Br.bindS_k, Br.bindK_some, Br.bindK_none, Tg.bind, Tg.binds, at', setIxP, AV.pvs, AV.pv, AV.lvs, AV.lv, AV.refs, AV.back, maskL, LV.isFro, LV.pv, Br.callE_k, Br.callK0_some, Br.callK_ok, Br.callK_ex, froE, Br.opX_add, Br.opX_sub, Br.opX_mul, Br.opX_fdiv, Br.opX_mod, Br.opX_pow, Br.opX_neg, Br.opX_eq, Br.opX_ne, Br.opX_lt, Br.opX_le, Br.opX_gt, Br.opX_ge, Br.opX_isN, Br.opX_isNN, Br.opX_inn, Br.opX_nin, Br.opX_len, Br.opX_sum, Br.opX_abs, Br.opX_int1, Br.opX_str1, Br.opX_tuple1, Br.opX_list1, Br.opX_sorted, Br.opX_allL, Br.opX_anyL, Br.opX_min2, Br.opX_max2, Br.opX_minL, Br.opX_maxL, Br.opX_idx, Br.opX_rev, Br.opX_dget, Br.opX_values, Br.opX_dmod, Br.opX_lcnt, Br.opX_tcnt, Br.opX_lidx, Br.opX_bits, Br.opX_sortedD, Br.opX_minD, Br.opX_maxD, Br.opX_isB, Br.opX_isNB, Br.opX_isTy, Br.opX_slc, Br.opX_isEx, Br.opX_dict1, Br.opX_tupleX, Br.dn_non, Br.dn_bl, Br.dn_int, Br.dn_str, Br.dn_ty, Br.dn_exc, Br.dn_tup, Br.dn_xt, Br.dn_lst, Br.dn_dK, Br.dn_dT, Br.dn_dn, Br.isD_dn, Br.eqP_dnl, Br.eqP_dnr, tupleXP, opSem, addP, subP, mulP, fdivP, modP, powP, negP, eqOP, neOP, ltOP, leOP, gtOP, geOP, isNP, isNNP, isBP, isNBP, PV.isNon, lenP, sumP, absP, int1P, str1P, tuple1P, list1P, min2P, max2P, idxP, slcP, slcPart, dmodP, isTyOP, isTys, isTyP, tyName, ownV, Op.new, wipeE, Br.backE_nil, Br.backE_cons, Br.froO_f, Br.froO_n, Br.froO_0, Br.froO_o, seqOf, parE, ownL, keyP, recvOk, PV.isD, PV.isT, Br.eqP_ii, Br.eqP_ss, Br.eqP_bb, Br.eqP_nn, Br.eqP_tt, Br.eqP_ll, Br.eqPs_00, Br.eqPs_0c, Br.eqPs_c0, Br.eqPs_cc, Br.eqPs_ints, Br.eqP_xl, Br.eqP_xr, Br.eqP_ni, Br.eqP_ns, Br.eqP_nt, Br.eqP_nl, Br.eqP_nb, Br.eqP_in, Br.eqP_is, Br.eqP_it, Br.eqP_il, Br.eqP_sn, Br.eqP_si, Br.eqP_st, Br.eqP_sl, Br.eqP_sb, Br.eqP_tn, Br.eqP_ti, Br.eqP_ts, Br.eqP_tl, Br.eqP_tb, Br.eqP_ln, Br.eqP_li, Br.eqP_ls, Br.eqP_lt, Br.eqP_lb, Br.eqP_bn, Br.eqP_bs, Br.eqP_bt, Br.eqP_bl, intsOf, List.getElem?_cons_zero, List.getElem?_cons_succ, List.getElem?_nil, List.set_cons_zero, List.set_cons_succ, List.map_cons, List.map_nil, List.cons_append, List.nil_append, List.length_cons, List.length_nil, List.replicate_succ, List.replicate_zero, List.append_nil, Option.bind_some, Option.bind_none, Option.map_some, Option.map_none, if_true, if_false, ite_true, ite_false, decide_true, decide_false, Bool.and_true, Bool.true_and, Bool.not_true, Bool.not_false, reduceIte, Option.isSome_some, Br.kit_NoneType_int, Br.kit_NoneType_bool, Br.kit_NoneType_str, Br.kit_NoneType_tuple, Br.kit_NoneType_list, Br.kit_NoneType_dict, Br.kit_bool_int, Br.kit_bool_bool, Br.kit_bool_str, Br.kit_bool_tuple, Br.kit_bool_list, Br.kit_bool_dict, Br.kit_int_int, Br.kit_int_bool, Br.kit_int_str, Br.kit_int_tuple, Br.kit_int_list, Br.kit_int_dict, Br.kit_str_int, Br.kit_str_bool, Br.kit_str_str, Br.kit_str_tuple, Br.kit_str_list, Br.kit_str_dict, Br.kit_tuple_int, Br.kit_tuple_bool, Br.kit_tuple_str, Br.kit_tuple_tuple, Br.kit_tuple_list, Br.kit_tuple_dict, Br.kit_list_int, Br.kit_list_bool, Br.kit_list_str, Br.kit_list_tuple, Br.kit_list_list, Br.kit_list_dict, Br.kit_dict_int, Br.kit_dict_bool, Br.kit_dict_str, Br.kit_dict_tuple, Br.kit_dict_list, Br.kit_dict_dict, L2.ixN, Br.rng_ok, Br.mul_ok_r, Br.mul_ok_l, LIM, Br.PV.i_int, Br.log2_lt_9000, Br.atI_0, Br.atI_1, Br.atI_2, lcntP, lidxP, bitsP, revP, cntP, sortedDP, minDP, maxDP, sortX, Br.x_try, Br.tryK_nx, Br.tryK_rt, Br.tryK_bk, Br.tryK_ct, Br.suiteX_nx, Br.suiteX_bk, Br.suiteX_ct, Br.suiteX_rt, Br.setX_some, Br.setX_none, Br.goneX_some, Br.goneX_none, Br.x_lock, Br.kLock_d, Br.lockR_nx, Br.lockR_rt, Br.l_callT', Br.v_callT, Br.kT1, Br.kT2, Br.kT3, Br.kT4_eq, Br.dropT_ok, Br.dropT_ex, Br.dropT_st, Br.sh_val, Br.sh_ref, Br.kXt, Br.v_xtup, Br.l_xtup, Br.lockV_s, Br.thin_0, Br.thin_c, Br.thinO_n, Br.thinO_s, Br.thinL_f, Br.thinL_l, Br.thinL_d, Br.thinL_t, Br.noD_n, Br.noD_b, Br.noD_i, Br.noD_s, Br.noD_e, Br.noD_t, Br.noD_x, Br.noD_l, Br.noD_d, Br.noDs_0, Br.noDs_c, Br.noDs_i, el_used_of_c33a_1]
    all_goals congr
end Cm
set_option maxHeartbeats 0
namespace Cm
open PySem Br
def bd_law_counts_30cb_1 : List Br.St := [.ite (.e (.app .eq [.ref 2, .val (.cst (.int 0))])) [.app 4 (.var 3)] [.ite (.e (.app .eq [.ref 2, .val (.cst (.int 1))])) [.app 4 (.call 364 [.ref 0, .val (.cst (.int 5))])] [.ite (.e (.app .eq [.ref 2, .val (.cst (.int 2))])) [.app 4 (.app .add [.ref 3, .val (.call 364 [.ref 0, .val (.cst (.int 2))])]), .set 3 (.app .fdiv [.ref 3, .val (.cst (.int 2))])] [.ite (.e (.app .eq [.ref 2, .val (.cst (.int 3))])) [.app 4 (.app .idx [.val (.lst [.app .sub [.val (.app .pow [.val (.cst (.int 10)), .val (.cst (.int 60))]), .val (.call 364 [.ref 0, .val (.cst (.int 3))])], .call 364 [.ref 0, .val (.cst (.int 30))], .cst (.int 0)]), .val (.call 364 [.ref 0, .val (.cst (.int 3))])])] [.app 4 (.call 364 [.ref 0, .val (.app .add [.ref 3, .val (.cst (.int 1))])])]]]]]
def ir_law_counts_30cb : Fn := ⟨6, 1, [0], [.set 1 (.app .add [.val (.cst (.int 1)), .val (.call 364 [.ref 0, .val (.cst (.int 12))])]), .set 2 (.call 364 [.ref 0, .val (.cst (.int 6))]), .set 3 (.call 364 [.ref 0, .val (.app .idx [.val (.lst [.cst (.int 5), .cst (.int 40), .app .pow [.val (.cst (.int 10)), .val (.cst (.int 6))], .app .pow [.val (.cst (.int 10)), .val (.cst (.int 30))], .app .pow [.val (.cst (.int 10)), .val (.cst (.int 60))]]), .val (.call 364 [.ref 0, .val (.cst (.int 5))])])]), .set 4 (.lst []), .for (.rng1 (.var 1)) (.one 5) bd_law_counts_30cb_1, .ret (.app .tuple1 [.ref 4])]⟩
def ph_law_counts_30cb : Nat → List LV → CR := fun j => match j with | 364 => g_law_take_9d40 | _ => fun _ => .st
def g_law_counts_30cb : List LV → CR := runFn ph_law_counts_30cb 1000000 ir_law_counts_30cb
-- use: U_list
abbrev BIG : Int := 1000000000000000000000000000000000000000000000000000000000000
theorem counts_30cb (n : Int) (h0 : 0 ≤ n) : ∃ (cs : List Int) (r : Int), 1 ≤ cs.length ∧ cs.length ≤ 12 ∧ (∀ c ∈ cs, 0 ≤ c ∧ c ≤ BIG + 1) ∧ 0 ≤ r ∧ g_law_counts_30cb [.own (.lst [.int n])] = .ok (.fro (.tup (cs.map .int))) [.own (.lst [.int r])] := by
  (unfold g_law_counts_30cb ir_law_counts_30cb; rw [runFn_eq _ _ _ _ ⟨rfl, by decide, rfl⟩])
  obtain ⟨q1, n1, a1, b1, c1, e1⟩ := take_9d40 (m := 12) h0 (by omega) (by omega)
  obtain ⟨q2, n2, a2, b2, c2, e2⟩ := take_9d40 (m := 6) c1 (by omega) (by omega)
  obtain ⟨q3, n3, a3, b3, c3, e3⟩ := take_9d40 (m := 5) c2 (by omega) (by omega)
  obtain ⟨v, hv, ev⟩ := atI_in (l := [PV.int 5, PV.int 40, PV.int 1000000, PV.int 1000000000000000000000000000000, PV.int 1000000000000000000000000000000000000000000000000000000000000]) a3 (by simpa using b3)
  obtain ⟨b, rfl, hb0, hb1⟩ : ∃ b : Int, v = .int b ∧ 0 < b ∧ b ≤ BIG := by
    simp only [List.mem_cons, List.not_mem_nil, or_false] at hv
    rcases hv with rfl | rfl | rfl | rfl | rfl <;> exact ⟨_, rfl, by decide, by decide⟩
  obtain ⟨q4, n4, a4, b4, c4, e4⟩ := take_9d40 (m := b) c3 hb0 (by unfold BIG at hb1; omega)
  have hr : rngOk (1 + q1) := rng_ok (by omega) (by omega)
  simp -implicitDefEqProofs [ioOk, Br.frameOf, lvsOf, Br.exSs_nil, Br.exSs_cons, SO.seq_nx, SO.seq_rt, SO.seq_ex, SO.seq_bk, SO.seq_ct, SO.seq_st, SO.fin_nx, SO.fin_rt, SO.fin_ex, Br.v_app, Br.v_mth, Br.v_tup, Br.v_lst, Br.v_cst, Br.v_dnew, Br.v_var, Br.v_call, Br.v_and, Br.v_or, Br.v_not, Br.v_ite, Br.v_chain, Br.v_sl2, Br.v_comp, Br.v_aref, Br.v_aval, Br.v_as0, Br.v_as, Br.v_es0, Br.v_es, Br.v_tand, Br.v_tor, Br.v_tnot, Br.v_te, Br.v_ts0, Br.v_ts1, Br.v_seq, Br.v_rng1, Br.v_rng2, Br.v_enum, Br.v_zip, Br.v_popE, Br.v_dispV, Br.l_dispV', Br.v_popL, Br.l_popE, Br.l_popL, Br.kPopE_eq, Br.putE_some, Br.putE_none, Br.v_rev, Br.l_app, Br.l_mth', Br.l_lst', Br.l_dnew', Br.l_call', Br.l_comp', Br.l_var, Br.l_cst, Br.l_tup, Br.l_and, Br.l_or, Br.l_not, Br.l_ite, Br.l_chain, Br.l_sl2, Br.x_set, Br.x_unp, Br.x_par, Br.x_setIx, Br.x_app, Br.x_ext, Br.x_popA, Br.x_insA, Br.kPopA, Br.kIns1, Br.kIns2, Br.x_ex, Br.x_ret, Br.x_retV, Br.x_retN, Br.x_if, Br.x_whl, Br.x_brk, Br.x_cont, Br.x_pass, Br.x_raise, Br.kOp, Br.kVal, Br.kCons, Br.kAs, Br.kConsE, Br.kEs, Br.kTup, Br.kLst, Br.kCall, Br.kMth2, Br.kMth, Br.kAnd, Br.kOr, Br.kNot, Br.kIte, Br.kCh4, Br.kCh3, Br.kCh2b, Br.kCh2, Br.kCh1, Br.kS3, Br.kS2, Br.kS1, Br.kC6, Br.kC5, Br.kC4, Br.kC3, Br.kC0, Br.kC2, Br.kC1, Br.kTand, Br.kTor, Br.kTnot, Br.kTe, Br.kSeq, Br.kR1, Br.kR3, Br.kR2, Br.kEn, Br.kZ2, Br.kZ1, Br.kRv, Br.kOwn, Br.kFro, Br.kOwnV, Br.kCallL, Br.kSet, Br.kUnp, Br.kPar, Br.kSI2, Br.kSI1, Br.kApp, Br.kExt, Br.kEx, Br.kRet, Br.kIf, Br.kFor, Br.ifE_t, Br.ifE_f, Br.ifS_t, Br.ifS_f, Br.okE_eq, Br.cF, Br.x_for, ne_eq, reduceCtorEq, not_false_eq_true, implies_true, ER.bind_ok, ER.bind_ex, ER.bind_st, ER.so_ok, ER.so_ex, ER.so_st, ER.of_some, ER.of_none, SO.of_some, SO.of_none, Br.bindS_k, Br.bindK_some, Br.bindK_none, Tg.bind, Tg.binds, at', setIxP, AV.pvs, AV.pv, AV.lvs, AV.lv, AV.refs, AV.back, maskL, LV.isFro, LV.pv, Br.callE_k, Br.callK0_some, Br.callK_ok, Br.callK_ex, froE, Br.opX_add, Br.opX_sub, Br.opX_mul, Br.opX_fdiv, Br.opX_mod, Br.opX_pow, Br.opX_neg, Br.opX_eq, Br.opX_ne, Br.opX_lt, Br.opX_le, Br.opX_gt, Br.opX_ge, Br.opX_isN, Br.opX_isNN, Br.opX_inn, Br.opX_nin, Br.opX_len, Br.opX_sum, Br.opX_abs, Br.opX_int1, Br.opX_str1, Br.opX_tuple1, Br.opX_list1, Br.opX_sorted, Br.opX_allL, Br.opX_anyL, Br.opX_min2, Br.opX_max2, Br.opX_minL, Br.opX_maxL, Br.opX_idx, Br.opX_rev, Br.opX_dget, Br.opX_values, Br.opX_dmod, Br.opX_lcnt, Br.opX_tcnt, Br.opX_lidx, Br.opX_bits, Br.opX_sortedD, Br.opX_minD, Br.opX_maxD, Br.opX_isB, Br.opX_isNB, Br.opX_isTy, Br.opX_slc, Br.opX_isEx, Br.opX_dict1, Br.opX_tupleX, Br.dn_non, Br.dn_bl, Br.dn_int, Br.dn_str, Br.dn_ty, Br.dn_exc, Br.dn_tup, Br.dn_xt, Br.dn_lst, Br.dn_dK, Br.dn_dT, Br.dn_dn, Br.isD_dn, Br.eqP_dnl, Br.eqP_dnr, tupleXP, opSem, addP, subP, mulP, fdivP, modP, powP, negP, eqOP, neOP, ltOP, leOP, gtOP, geOP, isNP, isNNP, isBP, isNBP, PV.isNon, lenP, sumP, absP, int1P, str1P, tuple1P, list1P, min2P, max2P, idxP, slcP, slcPart, dmodP, isTyOP, isTys, isTyP, tyName, ownV, Op.new, wipeE, Br.backE_nil, Br.backE_cons, Br.froO_f, Br.froO_n, Br.froO_0, Br.froO_o, seqOf, parE, ownL, keyP, recvOk, PV.isD, PV.isT, Br.eqP_ii, Br.eqP_ss, Br.eqP_bb, Br.eqP_nn, Br.eqP_tt, Br.eqP_ll, Br.eqPs_00, Br.eqPs_0c, Br.eqPs_c0, Br.eqPs_cc, Br.eqPs_ints, Br.eqP_xl, Br.eqP_xr, Br.eqP_ni, Br.eqP_ns, Br.eqP_nt, Br.eqP_nl, Br.eqP_nb, Br.eqP_in, Br.eqP_is, Br.eqP_it, Br.eqP_il, Br.eqP_sn, Br.eqP_si, Br.eqP_st, Br.eqP_sl, Br.eqP_sb, Br.eqP_tn, Br.eqP_ti, Br.eqP_ts, Br.eqP_tl, Br.eqP_tb, Br.eqP_ln, Br.eqP_li, Br.eqP_ls, Br.eqP_lt, Br.eqP_lb, Br.eqP_bn, Br.eqP_bs, Br.eqP_bt, Br.eqP_bl, intsOf, List.getElem?_cons_zero, List.getElem?_cons_succ, List.getElem?_nil, List.set_cons_zero, List.set_cons_succ, List.map_cons, List.map_nil, List.cons_append, List.nil_append, List.length_cons, List.length_nil, List.replicate_succ, List.replicate_zero, List.append_nil, Option.bind_some, Option.bind_none, Option.map_some, Option.map_none, if_true, if_false, ite_true, ite_false, decide_true, decide_false, Bool.and_true, Bool.true_and, Bool.not_true, Bool.not_false, reduceIte, Option.isSome_some, Br.kit_NoneType_int, Br.kit_NoneType_bool, Br.kit_NoneType_str, Br.kit_NoneType_tuple, Br.kit_NoneType_list, Br.kit_NoneType_dict, Br.kit_bool_int, Br.kit_bool_bool, Br.kit_bool_str, Br.kit_bool_tuple, Br.kit_bool_list, Br.kit_bool_dict, Br.kit_int_int, Br.kit_int_bool, Br.kit_int_str, Br.kit_int_tuple, Br.kit_int_list, Br.kit_int_dict, Br.kit_str_int, Br.kit_str_bool, Br.kit_str_str, Br.kit_str_tuple, Br.kit_str_list, Br.kit_str_dict, Br.kit_tuple_int, Br.kit_tuple_bool, Br.kit_tuple_str, Br.kit_tuple_tuple, Br.kit_tuple_list, Br.kit_tuple_dict, Br.kit_list_int, Br.kit_list_bool, Br.kit_list_str, Br.kit_list_tuple, Br.kit_list_list, Br.kit_list_dict, Br.kit_dict_int, Br.kit_dict_bool, Br.kit_dict_str, Br.kit_dict_tuple, Br.kit_dict_list, Br.kit_dict_dict, L2.ixN, Br.rng_ok, Br.mul_ok_r, Br.mul_ok_l, LIM, Br.PV.i_int, Br.log2_lt_9000, Br.atI_0, Br.atI_1, Br.atI_2, lcntP, lidxP, bitsP, revP, cntP, sortedDP, minDP, maxDP, sortX, Br.x_try, Br.tryK_nx, Br.tryK_rt, Br.tryK_bk, Br.tryK_ct, Br.suiteX_nx, Br.suiteX_bk, Br.suiteX_ct, Br.suiteX_rt, Br.setX_some, Br.setX_none, Br.goneX_some, Br.goneX_none, Br.x_lock, Br.kLock_d, Br.lockR_nx, Br.lockR_rt, Br.l_callT', Br.v_callT, Br.kT1, Br.kT2, Br.kT3, Br.kT4_eq, Br.dropT_ok, Br.dropT_ex, Br.dropT_st, Br.sh_val, Br.sh_ref, Br.kXt, Br.v_xtup, Br.l_xtup, Br.lockV_s, Br.thin_0, Br.thin_c, Br.thinO_n, Br.thinO_s, Br.thinL_f, Br.thinL_l, Br.thinL_d, Br.thinL_t, Br.noD_n, Br.noD_b, Br.noD_i, Br.noD_s, Br.noD_e, Br.noD_t, Br.noD_x, Br.noD_l, Br.noD_d, Br.noDs_0, Br.noDs_c, Br.noDs_i, ph_law_counts_30cb, e1, e2, e3, e4, ev, hr]
  have key := forL_inv (f := bindS (exSs ph_law_counts_30cb 1000000 bd_law_counts_30cb_1) (.one 5)) (xs := rngP 0 (1 + q1))
    (ρ := [some (LV.own (PV.lst [PV.int n4])), some (LV.fro (PV.int (1 + q1))), some (LV.fro (PV.int q2)), some (LV.fro (PV.int q4)), some (LV.own (PV.lst [])), none])
    (fun i ρ => ∃ (n b : Int) (cs : List Int) (l5 : Option LV), 0 ≤ n ∧ 0 ≤ b ∧ b ≤ BIG ∧ cs.length = i ∧ (∀ c ∈ cs, 0 ≤ c ∧ c ≤ BIG + 1) ∧
      ρ = [some (.own (.lst [.int n])), some (.fro (.int (1 + q1))), some (.fro (.int q2)), some (.fro (.int b)), some (.own (.lst (cs.map .int))), l5])
    ⟨n4, q4, [], none, c4, a4, by omega, rfl, by simp, rfl⟩
    (fun i x ρ hx hi => by
      obtain ⟨n, b, cs, l5, hn, hb0, hb1, hlen, hcs, rfl⟩ := hi
      obtain ⟨rfl, hi2⟩ := rngP_at hx
      have hl : cs.length < 1000000 := by omega
      have app : ∀ c : Int, 0 ≤ c → c ≤ BIG + 1 → ∀ x ∈ cs ++ [c], 0 ≤ x ∧ x ≤ BIG + 1 := fun c h1 h2 x hx => by
        rcases List.mem_append.mp hx with h | h
        · exact hcs x h
        · simp at h; subst h; exact ⟨h1, h2⟩
      by_cases k0 : q2 = 0
      · subst k0
        refine ⟨_, .inl (by (conv => lhs; simp -implicitDefEqProofs [ioOk, Br.frameOf, lvsOf, Br.exSs_nil, Br.exSs_cons, SO.seq_nx, SO.seq_rt, SO.seq_ex, SO.seq_bk, SO.seq_ct, SO.seq_st, SO.fin_nx, SO.fin_rt, SO.fin_ex, Br.v_app, Br.v_mth, Br.v_tup, Br.v_lst, Br.v_cst, Br.v_dnew, Br.v_var, Br.v_call, Br.v_and, Br.v_or, Br.v_not, Br.v_ite, Br.v_chain, Br.v_sl2, Br.v_comp, Br.v_aref, Br.v_aval, Br.v_as0, Br.v_as, Br.v_es0, Br.v_es, Br.v_tand, Br.v_tor, Br.v_tnot, Br.v_te, Br.v_ts0, Br.v_ts1, Br.v_seq, Br.v_rng1, Br.v_rng2, Br.v_enum, Br.v_zip, Br.v_popE, Br.v_dispV, Br.l_dispV', Br.v_popL, Br.l_popE, Br.l_popL, Br.kPopE_eq, Br.putE_some, Br.putE_none, Br.v_rev, Br.l_app, Br.l_mth', Br.l_lst', Br.l_dnew', Br.l_call', Br.l_comp', Br.l_var, Br.l_cst, Br.l_tup, Br.l_and, Br.l_or, Br.l_not, Br.l_ite, Br.l_chain, Br.l_sl2, Br.x_set, Br.x_unp, Br.x_par, Br.x_setIx, Br.x_app, Br.x_ext, Br.x_popA, Br.x_insA, Br.kPopA, Br.kIns1, Br.kIns2, Br.x_ex, Br.x_ret, Br.x_retV, Br.x_retN, Br.x_if, Br.x_whl, Br.x_brk, Br.x_cont, Br.x_pass, Br.x_raise, Br.kOp, Br.kVal, Br.kCons, Br.kAs, Br.kConsE, Br.kEs, Br.kTup, Br.kLst, Br.kCall, Br.kMth2, Br.kMth, Br.kAnd, Br.kOr, Br.kNot, Br.kIte, Br.kCh4, Br.kCh3, Br.kCh2b, Br.kCh2, Br.kCh1, Br.kS3, Br.kS2, Br.kS1, Br.kC6, Br.kC5, Br.kC4, Br.kC3, Br.kC0, Br.kC2, Br.kC1, Br.kTand, Br.kTor, Br.kTnot, Br.kTe, Br.kSeq, Br.kR1, Br.kR3, Br.kR2, Br.kEn, Br.kZ2, Br.kZ1, Br.kRv, Br.kOwn, Br.kFro, Br.kOwnV, Br.kCallL, Br.kSet, Br.kUnp, Br.kPar, Br.kSI2, Br.kSI1, Br.kApp, Br.kExt, Br.kEx, Br.kRet, Br.kIf, Br.kFor, Br.ifE_t, Br.ifE_f, Br.ifS_t, Br.ifS_f, Br.okE_eq, Br.cF, Br.x_for, ne_eq, reduceCtorEq, not_false_eq_true, implies_true, ER.bind_ok, ER.bind_ex, ER.bind_st, ER.so_ok, ER.so_ex, ER.so_st, ER.of_some, ER.of_none, SO.of_some, SO.of_none, Br.bindS_k, Br.bindK_some, Br.bindK_none, Tg.bind, Tg.binds, at', setIxP, AV.pvs, AV.pv, AV.lvs, AV.lv, AV.refs, AV.back, maskL, LV.isFro, LV.pv, Br.callE_k, Br.callK0_some, Br.callK_ok, Br.callK_ex, froE, Br.opX_add, Br.opX_sub, Br.opX_mul, Br.opX_fdiv, Br.opX_mod, Br.opX_pow, Br.opX_neg, Br.opX_eq, Br.opX_ne, Br.opX_lt, Br.opX_le, Br.opX_gt, Br.opX_ge, Br.opX_isN, Br.opX_isNN, Br.opX_inn, Br.opX_nin, Br.opX_len, Br.opX_sum, Br.opX_abs, Br.opX_int1, Br.opX_str1, Br.opX_tuple1, Br.opX_list1, Br.opX_sorted, Br.opX_allL, Br.opX_anyL, Br.opX_min2, Br.opX_max2, Br.opX_minL, Br.opX_maxL, Br.opX_idx, Br.opX_rev, Br.opX_dget, Br.opX_values, Br.opX_dmod, Br.opX_lcnt, Br.opX_tcnt, Br.opX_lidx, Br.opX_bits, Br.opX_sortedD, Br.opX_minD, Br.opX_maxD, Br.opX_isB, Br.opX_isNB, Br.opX_isTy, Br.opX_slc, Br.opX_isEx, Br.opX_dict1, Br.opX_tupleX, Br.dn_non, Br.dn_bl, Br.dn_int, Br.dn_str, Br.dn_ty, Br.dn_exc, Br.dn_tup, Br.dn_xt, Br.dn_lst, Br.dn_dK, Br.dn_dT, Br.dn_dn, Br.isD_dn, Br.eqP_dnl, Br.eqP_dnr, tupleXP, opSem, addP, subP, mulP, fdivP, modP, powP, negP, eqOP, neOP, ltOP, leOP, gtOP, geOP, isNP, isNNP, isBP, isNBP, PV.isNon, lenP, sumP, absP, int1P, str1P, tuple1P, list1P, min2P, max2P, idxP, slcP, slcPart, dmodP, isTyOP, isTys, isTyP, tyName, ownV, Op.new, wipeE, Br.backE_nil, Br.backE_cons, Br.froO_f, Br.froO_n, Br.froO_0, Br.froO_o, seqOf, parE, ownL, keyP, recvOk, PV.isD, PV.isT, Br.eqP_ii, Br.eqP_ss, Br.eqP_bb, Br.eqP_nn, Br.eqP_tt, Br.eqP_ll, Br.eqPs_00, Br.eqPs_0c, Br.eqPs_c0, Br.eqPs_cc, Br.eqPs_ints, Br.eqP_xl, Br.eqP_xr, Br.eqP_ni, Br.eqP_ns, Br.eqP_nt, Br.eqP_nl, Br.eqP_nb, Br.eqP_in, Br.eqP_is, Br.eqP_it, Br.eqP_il, Br.eqP_sn, Br.eqP_si, Br.eqP_st, Br.eqP_sl, Br.eqP_sb, Br.eqP_tn, Br.eqP_ti, Br.eqP_ts, Br.eqP_tl, Br.eqP_tb, Br.eqP_ln, Br.eqP_li, Br.eqP_ls, Br.eqP_lt, Br.eqP_lb, Br.eqP_bn, Br.eqP_bs, Br.eqP_bt, Br.eqP_bl, intsOf, List.getElem?_cons_zero, List.getElem?_cons_succ, List.getElem?_nil, List.set_cons_zero, List.set_cons_succ, List.map_cons, List.map_nil, List.cons_append, List.nil_append, List.length_cons, List.length_nil, List.replicate_succ, List.replicate_zero, List.append_nil, Option.bind_some, Option.bind_none, Option.map_some, Option.map_none, if_true, if_false, ite_true, ite_false, decide_true, decide_false, Bool.and_true, Bool.true_and, Bool.not_true, Bool.not_false, reduceIte, Option.isSome_some, Br.kit_NoneType_int, Br.kit_NoneType_bool, Br.kit_NoneType_str, Br.kit_NoneType_tuple, Br.kit_NoneType_list, Br.kit_NoneType_dict, Br.kit_bool_int, Br.kit_bool_bool, Br.kit_bool_str, Br.kit_bool_tuple, Br.kit_bool_list, Br.kit_bool_dict, Br.kit_int_int, Br.kit_int_bool, Br.kit_int_str, Br.kit_int_tuple, Br.kit_int_list, Br.kit_int_dict, Br.kit_str_int, Br.kit_str_bool, Br.kit_str_str, Br.kit_str_tuple, Br.kit_str_list, Br.kit_str_dict, Br.kit_tuple_int, Br.kit_tuple_bool, Br.kit_tuple_str, Br.kit_tuple_tuple, Br.kit_tuple_list, Br.kit_tuple_dict, Br.kit_list_int, Br.kit_list_bool, Br.kit_list_str, Br.kit_list_tuple, Br.kit_list_list, Br.kit_list_dict, Br.kit_dict_int, Br.kit_dict_bool, Br.kit_dict_str, Br.kit_dict_tuple, Br.kit_dict_list, Br.kit_dict_dict, L2.ixN, Br.rng_ok, Br.mul_ok_r, Br.mul_ok_l, LIM, Br.PV.i_int, Br.log2_lt_9000, Br.atI_0, Br.atI_1, Br.atI_2, lcntP, lidxP, bitsP, revP, cntP, sortedDP, minDP, maxDP, sortX, Br.x_try, Br.tryK_nx, Br.tryK_rt, Br.tryK_bk, Br.tryK_ct, Br.suiteX_nx, Br.suiteX_bk, Br.suiteX_ct, Br.suiteX_rt, Br.setX_some, Br.setX_none, Br.goneX_some, Br.goneX_none, Br.x_lock, Br.kLock_d, Br.lockR_nx, Br.lockR_rt, Br.l_callT', Br.v_callT, Br.kT1, Br.kT2, Br.kT3, Br.kT4_eq, Br.dropT_ok, Br.dropT_ex, Br.dropT_st, Br.sh_val, Br.sh_ref, Br.kXt, Br.v_xtup, Br.l_xtup, Br.lockV_s, Br.thin_0, Br.thin_c, Br.thinO_n, Br.thinO_s, Br.thinL_f, Br.thinL_l, Br.thinL_d, Br.thinL_t, Br.noD_n, Br.noD_b, Br.noD_i, Br.noD_s, Br.noD_e, Br.noD_t, Br.noD_x, Br.noD_l, Br.noD_d, Br.noDs_0, Br.noDs_c, Br.noDs_i, bd_law_counts_30cb_1, hl]); all_goals rfl), n, b, cs ++ [b], some (.fro (.int (i : Nat))), hn, hb0, hb1, by simp [hlen], app b hb0 (by omega), by simp⟩
      · by_cases k1 : q2 = 1
        · subst k1
          obtain ⟨u, n', u0, u1, u2, eu⟩ := take_9d40 (m := 5) hn (by omega) (by omega)
          refine ⟨_, .inl (by (conv => lhs; simp -implicitDefEqProofs [ioOk, Br.frameOf, lvsOf, Br.exSs_nil, Br.exSs_cons, SO.seq_nx, SO.seq_rt, SO.seq_ex, SO.seq_bk, SO.seq_ct, SO.seq_st, SO.fin_nx, SO.fin_rt, SO.fin_ex, Br.v_app, Br.v_mth, Br.v_tup, Br.v_lst, Br.v_cst, Br.v_dnew, Br.v_var, Br.v_call, Br.v_and, Br.v_or, Br.v_not, Br.v_ite, Br.v_chain, Br.v_sl2, Br.v_comp, Br.v_aref, Br.v_aval, Br.v_as0, Br.v_as, Br.v_es0, Br.v_es, Br.v_tand, Br.v_tor, Br.v_tnot, Br.v_te, Br.v_ts0, Br.v_ts1, Br.v_seq, Br.v_rng1, Br.v_rng2, Br.v_enum, Br.v_zip, Br.v_popE, Br.v_dispV, Br.l_dispV', Br.v_popL, Br.l_popE, Br.l_popL, Br.kPopE_eq, Br.putE_some, Br.putE_none, Br.v_rev, Br.l_app, Br.l_mth', Br.l_lst', Br.l_dnew', Br.l_call', Br.l_comp', Br.l_var, Br.l_cst, Br.l_tup, Br.l_and, Br.l_or, Br.l_not, Br.l_ite, Br.l_chain, Br.l_sl2, Br.x_set, Br.x_unp, Br.x_par, Br.x_setIx, Br.x_app, Br.x_ext, Br.x_popA, Br.x_insA, Br.kPopA, Br.kIns1, Br.kIns2, Br.x_ex, Br.x_ret, Br.x_retV, Br.x_retN, Br.x_if, Br.x_whl, Br.x_brk, Br.x_cont, Br.x_pass, Br.x_raise, Br.kOp, Br.kVal, Br.kCons, Br.kAs, Br.kConsE, Br.kEs, Br.kTup, Br.kLst, Br.kCall, Br.kMth2, Br.kMth, Br.kAnd, Br.kOr, Br.kNot, Br.kIte, Br.kCh4, Br.kCh3, Br.kCh2b, Br.kCh2, Br.kCh1, Br.kS3, Br.kS2, Br.kS1, Br.kC6, Br.kC5, Br.kC4, Br.kC3, Br.kC0, Br.kC2, Br.kC1, Br.kTand, Br.kTor, Br.kTnot, Br.kTe, Br.kSeq, Br.kR1, Br.kR3, Br.kR2, Br.kEn, Br.kZ2, Br.kZ1, Br.kRv, Br.kOwn, Br.kFro, Br.kOwnV, Br.kCallL, Br.kSet, Br.kUnp, Br.kPar, Br.kSI2, Br.kSI1, Br.kApp, Br.kExt, Br.kEx, Br.kRet, Br.kIf, Br.kFor, Br.ifE_t, Br.ifE_f, Br.ifS_t, Br.ifS_f, Br.okE_eq, Br.cF, Br.x_for, ne_eq, reduceCtorEq, not_false_eq_true, implies_true, ER.bind_ok, ER.bind_ex, ER.bind_st, ER.so_ok, ER.so_ex, ER.so_st, ER.of_some, ER.of_none, SO.of_some, SO.of_none, Br.bindS_k, Br.bindK_some, Br.bindK_none, Tg.bind, Tg.binds, at', setIxP, AV.pvs, AV.pv, AV.lvs, AV.lv, AV.refs, AV.back, maskL, LV.isFro, LV.pv, Br.callE_k, Br.callK0_some, Br.callK_ok, Br.callK_ex, froE, Br.opX_add, Br.opX_sub, Br.opX_mul, Br.opX_fdiv, Br.opX_mod, Br.opX_pow, Br.opX_neg, Br.opX_eq, Br.opX_ne, Br.opX_lt, Br.opX_le, Br.opX_gt, Br.opX_ge, Br.opX_isN, Br.opX_isNN, Br.opX_inn, Br.opX_nin, Br.opX_len, Br.opX_sum, Br.opX_abs, Br.opX_int1, Br.opX_str1, Br.opX_tuple1, Br.opX_list1, Br.opX_sorted, Br.opX_allL, Br.opX_anyL, Br.opX_min2, Br.opX_max2, Br.opX_minL, Br.opX_maxL, Br.opX_idx, Br.opX_rev, Br.opX_dget, Br.opX_values, Br.opX_dmod, Br.opX_lcnt, Br.opX_tcnt, Br.opX_lidx, Br.opX_bits, Br.opX_sortedD, Br.opX_minD, Br.opX_maxD, Br.opX_isB, Br.opX_isNB, Br.opX_isTy, Br.opX_slc, Br.opX_isEx, Br.opX_dict1, Br.opX_tupleX, Br.dn_non, Br.dn_bl, Br.dn_int, Br.dn_str, Br.dn_ty, Br.dn_exc, Br.dn_tup, Br.dn_xt, Br.dn_lst, Br.dn_dK, Br.dn_dT, Br.dn_dn, Br.isD_dn, Br.eqP_dnl, Br.eqP_dnr, tupleXP, opSem, addP, subP, mulP, fdivP, modP, powP, negP, eqOP, neOP, ltOP, leOP, gtOP, geOP, isNP, isNNP, isBP, isNBP, PV.isNon, lenP, sumP, absP, int1P, str1P, tuple1P, list1P, min2P, max2P, idxP, slcP, slcPart, dmodP, isTyOP, isTys, isTyP, tyName, ownV, Op.new, wipeE, Br.backE_nil, Br.backE_cons, Br.froO_f, Br.froO_n, Br.froO_0, Br.froO_o, seqOf, parE, ownL, keyP, recvOk, PV.isD, PV.isT, Br.eqP_ii, Br.eqP_ss, Br.eqP_bb, Br.eqP_nn, Br.eqP_tt, Br.eqP_ll, Br.eqPs_00, Br.eqPs_0c, Br.eqPs_c0, Br.eqPs_cc, Br.eqPs_ints, Br.eqP_xl, Br.eqP_xr, Br.eqP_ni, Br.eqP_ns, Br.eqP_nt, Br.eqP_nl, Br.eqP_nb, Br.eqP_in, Br.eqP_is, Br.eqP_it, Br.eqP_il, Br.eqP_sn, Br.eqP_si, Br.eqP_st, Br.eqP_sl, Br.eqP_sb, Br.eqP_tn, Br.eqP_ti, Br.eqP_ts, Br.eqP_tl, Br.eqP_tb, Br.eqP_ln, Br.eqP_li, Br.eqP_ls, Br.eqP_lt, Br.eqP_lb, Br.eqP_bn, Br.eqP_bs, Br.eqP_bt, Br.eqP_bl, intsOf, List.getElem?_cons_zero, List.getElem?_cons_succ, List.getElem?_nil, List.set_cons_zero, List.set_cons_succ, List.map_cons, List.map_nil, List.cons_append, List.nil_append, List.length_cons, List.length_nil, List.replicate_succ, List.replicate_zero, List.append_nil, Option.bind_some, Option.bind_none, Option.map_some, Option.map_none, if_true, if_false, ite_true, ite_false, decide_true, decide_false, Bool.and_true, Bool.true_and, Bool.not_true, Bool.not_false, reduceIte, Option.isSome_some, Br.kit_NoneType_int, Br.kit_NoneType_bool, Br.kit_NoneType_str, Br.kit_NoneType_tuple, Br.kit_NoneType_list, Br.kit_NoneType_dict, Br.kit_bool_int, Br.kit_bool_bool, Br.kit_bool_str, Br.kit_bool_tuple, Br.kit_bool_list, Br.kit_bool_dict, Br.kit_int_int, Br.kit_int_bool, Br.kit_int_str, Br.kit_int_tuple, Br.kit_int_list, Br.kit_int_dict, Br.kit_str_int, Br.kit_str_bool, Br.kit_str_str, Br.kit_str_tuple, Br.kit_str_list, Br.kit_str_dict, Br.kit_tuple_int, Br.kit_tuple_bool, Br.kit_tuple_str, Br.kit_tuple_tuple, Br.kit_tuple_list, Br.kit_tuple_dict, Br.kit_list_int, Br.kit_list_bool, Br.kit_list_str, Br.kit_list_tuple, Br.kit_list_list, Br.kit_list_dict, Br.kit_dict_int, Br.kit_dict_bool, Br.kit_dict_str, Br.kit_dict_tuple, Br.kit_dict_list, Br.kit_dict_dict, L2.ixN, Br.rng_ok, Br.mul_ok_r, Br.mul_ok_l, LIM, Br.PV.i_int, Br.log2_lt_9000, Br.atI_0, Br.atI_1, Br.atI_2, lcntP, lidxP, bitsP, revP, cntP, sortedDP, minDP, maxDP, sortX, Br.x_try, Br.tryK_nx, Br.tryK_rt, Br.tryK_bk, Br.tryK_ct, Br.suiteX_nx, Br.suiteX_bk, Br.suiteX_ct, Br.suiteX_rt, Br.setX_some, Br.setX_none, Br.goneX_some, Br.goneX_none, Br.x_lock, Br.kLock_d, Br.lockR_nx, Br.lockR_rt, Br.l_callT', Br.v_callT, Br.kT1, Br.kT2, Br.kT3, Br.kT4_eq, Br.dropT_ok, Br.dropT_ex, Br.dropT_st, Br.sh_val, Br.sh_ref, Br.kXt, Br.v_xtup, Br.l_xtup, Br.lockV_s, Br.thin_0, Br.thin_c, Br.thinO_n, Br.thinO_s, Br.thinL_f, Br.thinL_l, Br.thinL_d, Br.thinL_t, Br.noD_n, Br.noD_b, Br.noD_i, Br.noD_s, Br.noD_e, Br.noD_t, Br.noD_x, Br.noD_l, Br.noD_d, Br.noDs_0, Br.noDs_c, Br.noDs_i, bd_law_counts_30cb_1, hl, ph_law_counts_30cb, eu]); all_goals rfl), n', b, cs ++ [u], some (.fro (.int (i : Nat))), u2, hb0, hb1, by simp [hlen], app u u0 (by unfold BIG; omega), by simp⟩
        · by_cases k2 : q2 = 2
          · subst k2
            obtain ⟨u, n', u0, u1, u2, eu⟩ := take_9d40 (m := 2) hn (by omega) (by omega)
            refine ⟨_, .inl (by (conv => lhs; simp -implicitDefEqProofs [ioOk, Br.frameOf, lvsOf, Br.exSs_nil, Br.exSs_cons, SO.seq_nx, SO.seq_rt, SO.seq_ex, SO.seq_bk, SO.seq_ct, SO.seq_st, SO.fin_nx, SO.fin_rt, SO.fin_ex, Br.v_app, Br.v_mth, Br.v_tup, Br.v_lst, Br.v_cst, Br.v_dnew, Br.v_var, Br.v_call, Br.v_and, Br.v_or, Br.v_not, Br.v_ite, Br.v_chain, Br.v_sl2, Br.v_comp, Br.v_aref, Br.v_aval, Br.v_as0, Br.v_as, Br.v_es0, Br.v_es, Br.v_tand, Br.v_tor, Br.v_tnot, Br.v_te, Br.v_ts0, Br.v_ts1, Br.v_seq, Br.v_rng1, Br.v_rng2, Br.v_enum, Br.v_zip, Br.v_popE, Br.v_dispV, Br.l_dispV', Br.v_popL, Br.l_popE, Br.l_popL, Br.kPopE_eq, Br.putE_some, Br.putE_none, Br.v_rev, Br.l_app, Br.l_mth', Br.l_lst', Br.l_dnew', Br.l_call', Br.l_comp', Br.l_var, Br.l_cst, Br.l_tup, Br.l_and, Br.l_or, Br.l_not, Br.l_ite, Br.l_chain, Br.l_sl2, Br.x_set, Br.x_unp, Br.x_par, Br.x_setIx, Br.x_app, Br.x_ext, Br.x_popA, Br.x_insA, Br.kPopA, Br.kIns1, Br.kIns2, Br.x_ex, Br.x_ret, Br.x_retV, Br.x_retN, Br.x_if, Br.x_whl, Br.x_brk, Br.x_cont, Br.x_pass, Br.x_raise, Br.kOp, Br.kVal, Br.kCons, Br.kAs, Br.kConsE, Br.kEs, Br.kTup, Br.kLst, Br.kCall, Br.kMth2, Br.kMth, Br.kAnd, Br.kOr, Br.kNot, Br.kIte, Br.kCh4, Br.kCh3, Br.kCh2b, Br.kCh2, Br.kCh1, Br.kS3, Br.kS2, Br.kS1, Br.kC6, Br.kC5, Br.kC4, Br.kC3, Br.kC0, Br.kC2, Br.kC1, Br.kTand, Br.kTor, Br.kTnot, Br.kTe, Br.kSeq, Br.kR1, Br.kR3, Br.kR2, Br.kEn, Br.kZ2, Br.kZ1, Br.kRv, Br.kOwn, Br.kFro, Br.kOwnV, Br.kCallL, Br.kSet, Br.kUnp, Br.kPar, Br.kSI2, Br.kSI1, Br.kApp, Br.kExt, Br.kEx, Br.kRet, Br.kIf, Br.kFor, Br.ifE_t, Br.ifE_f, Br.ifS_t, Br.ifS_f, Br.okE_eq, Br.cF, Br.x_for, ne_eq, reduceCtorEq, not_false_eq_true, implies_true, ER.bind_ok, ER.bind_ex, ER.bind_st, ER.so_ok, ER.so_ex, ER.so_st, ER.of_some, ER.of_none, SO.of_some, SO.of_none, Br.bindS_k, Br.bindK_some, Br.bindK_none, Tg.bind, Tg.binds, at', setIxP, AV.pvs, AV.pv, AV.lvs, AV.lv, AV.refs, AV.back, maskL, LV.isFro, LV.pv, Br.callE_k, Br.callK0_some, Br.callK_ok, Br.callK_ex, froE, Br.opX_add, Br.opX_sub, Br.opX_mul, Br.opX_fdiv, Br.opX_mod, Br.opX_pow, Br.opX_neg, Br.opX_eq, Br.opX_ne, Br.opX_lt, Br.opX_le, Br.opX_gt, Br.opX_ge, Br.opX_isN, Br.opX_isNN, Br.opX_inn, Br.opX_nin, Br.opX_len, Br.opX_sum, Br.opX_abs, Br.opX_int1, Br.opX_str1, Br.opX_tuple1, Br.opX_list1, Br.opX_sorted, Br.opX_allL, Br.opX_anyL, Br.opX_min2, Br.opX_max2, Br.opX_minL, Br.opX_maxL, Br.opX_idx, Br.opX_rev, Br.opX_dget, Br.opX_values, Br.opX_dmod, Br.opX_lcnt, Br.opX_tcnt, Br.opX_lidx, Br.opX_bits, Br.opX_sortedD, Br.opX_minD, Br.opX_maxD, Br.opX_isB, Br.opX_isNB, Br.opX_isTy, Br.opX_slc, Br.opX_isEx, Br.opX_dict1, Br.opX_tupleX, Br.dn_non, Br.dn_bl, Br.dn_int, Br.dn_str, Br.dn_ty, Br.dn_exc, Br.dn_tup, Br.dn_xt, Br.dn_lst, Br.dn_dK, Br.dn_dT, Br.dn_dn, Br.isD_dn, Br.eqP_dnl, Br.eqP_dnr, tupleXP, opSem, addP, subP, mulP, fdivP, modP, powP, negP, eqOP, neOP, ltOP, leOP, gtOP, geOP, isNP, isNNP, isBP, isNBP, PV.isNon, lenP, sumP, absP, int1P, str1P, tuple1P, list1P, min2P, max2P, idxP, slcP, slcPart, dmodP, isTyOP, isTys, isTyP, tyName, ownV, Op.new, wipeE, Br.backE_nil, Br.backE_cons, Br.froO_f, Br.froO_n, Br.froO_0, Br.froO_o, seqOf, parE, ownL, keyP, recvOk, PV.isD, PV.isT, Br.eqP_ii, Br.eqP_ss, Br.eqP_bb, Br.eqP_nn, Br.eqP_tt, Br.eqP_ll, Br.eqPs_00, Br.eqPs_0c, Br.eqPs_c0, Br.eqPs_cc, Br.eqPs_ints, Br.eqP_xl, Br.eqP_xr, Br.eqP_ni, Br.eqP_ns, Br.eqP_nt, Br.eqP_nl, Br.eqP_nb, Br.eqP_in, Br.eqP_is, Br.eqP_it, Br.eqP_il, Br.eqP_sn, Br.eqP_si, Br.eqP_st, Br.eqP_sl, Br.eqP_sb, Br.eqP_tn, Br.eqP_ti, Br.eqP_ts, Br.eqP_tl, Br.eqP_tb, Br.eqP_ln, Br.eqP_li, Br.eqP_ls, Br.eqP_lt, Br.eqP_lb, Br.eqP_bn, Br.eqP_bs, Br.eqP_bt, Br.eqP_bl, intsOf, List.getElem?_cons_zero, List.getElem?_cons_succ, List.getElem?_nil, List.set_cons_zero, List.set_cons_succ, List.map_cons, List.map_nil, List.cons_append, List.nil_append, List.length_cons, List.length_nil, List.replicate_succ, List.replicate_zero, List.append_nil, Option.bind_some, Option.bind_none, Option.map_some, Option.map_none, if_true, if_false, ite_true, ite_false, decide_true, decide_false, Bool.and_true, Bool.true_and, Bool.not_true, Bool.not_false, reduceIte, Option.isSome_some, Br.kit_NoneType_int, Br.kit_NoneType_bool, Br.kit_NoneType_str, Br.kit_NoneType_tuple, Br.kit_NoneType_list, Br.kit_NoneType_dict, Br.kit_bool_int, Br.kit_bool_bool, Br.kit_bool_str, Br.kit_bool_tuple, Br.kit_bool_list, Br.kit_bool_dict, Br.kit_int_int, Br.kit_int_bool, Br.kit_int_str, Br.kit_int_tuple, Br.kit_int_list, Br.kit_int_dict, Br.kit_str_int, Br.kit_str_bool, Br.kit_str_str, Br.kit_str_tuple, Br.kit_str_list, Br.kit_str_dict, Br.kit_tuple_int, Br.kit_tuple_bool, Br.kit_tuple_str, Br.kit_tuple_tuple, Br.kit_tuple_list, Br.kit_tuple_dict, Br.kit_list_int, Br.kit_list_bool, Br.kit_list_str, Br.kit_list_tuple, Br.kit_list_list, Br.kit_list_dict, Br.kit_dict_int, Br.kit_dict_bool, Br.kit_dict_str, Br.kit_dict_tuple, Br.kit_dict_list, Br.kit_dict_dict, L2.ixN, Br.rng_ok, Br.mul_ok_r, Br.mul_ok_l, LIM, Br.PV.i_int, Br.log2_lt_9000, Br.atI_0, Br.atI_1, Br.atI_2, lcntP, lidxP, bitsP, revP, cntP, sortedDP, minDP, maxDP, sortX, Br.x_try, Br.tryK_nx, Br.tryK_rt, Br.tryK_bk, Br.tryK_ct, Br.suiteX_nx, Br.suiteX_bk, Br.suiteX_ct, Br.suiteX_rt, Br.setX_some, Br.setX_none, Br.goneX_some, Br.goneX_none, Br.x_lock, Br.kLock_d, Br.lockR_nx, Br.lockR_rt, Br.l_callT', Br.v_callT, Br.kT1, Br.kT2, Br.kT3, Br.kT4_eq, Br.dropT_ok, Br.dropT_ex, Br.dropT_st, Br.sh_val, Br.sh_ref, Br.kXt, Br.v_xtup, Br.l_xtup, Br.lockV_s, Br.thin_0, Br.thin_c, Br.thinO_n, Br.thinO_s, Br.thinL_f, Br.thinL_l, Br.thinL_d, Br.thinL_t, Br.noD_n, Br.noD_b, Br.noD_i, Br.noD_s, Br.noD_e, Br.noD_t, Br.noD_x, Br.noD_l, Br.noD_d, Br.noDs_0, Br.noDs_c, Br.noDs_i, bd_law_counts_30cb_1, hl, ph_law_counts_30cb, eu]); all_goals rfl), n', b / 2, cs ++ [b + u], some (.fro (.int (i : Nat))), u2, by omega, by omega, by simp [hlen], app (b + u) (by omega) (by omega), by simp⟩
          · by_cases k3 : q2 = 3
            · subst k3
              obtain ⟨u, n', u0, u1, u2, eu⟩ := take_9d40 (m := 3) hn (by omega) (by omega)
              obtain ⟨v, n'', v0, v1, v2, ev⟩ := take_9d40 (m := 30) u2 (by omega) (by omega)
              obtain ⟨z, n3', z0, z1, z2, ez⟩ := take_9d40 (m := 3) v2 (by omega) (by omega)
              obtain ⟨y, hy, ey⟩ := atI_in (l := [PV.int (1000000000000000000000000000000000000000000000000000000000000 - u), PV.int v, PV.int 0]) z0 (by simpa using z1)
              obtain ⟨t, rfl, ht0, ht1⟩ : ∃ t : Int, y = .int t ∧ 0 ≤ t ∧ t ≤ BIG + 1 := by
                simp only [List.mem_cons, List.not_mem_nil, or_false] at hy
                rcases hy with rfl | rfl | rfl <;> exact ⟨_, rfl, by omega, by unfold BIG; omega⟩
              refine ⟨_, .inl (by (conv => lhs; simp -implicitDefEqProofs [ioOk, Br.frameOf, lvsOf, Br.exSs_nil, Br.exSs_cons, SO.seq_nx, SO.seq_rt, SO.seq_ex, SO.seq_bk, SO.seq_ct, SO.seq_st, SO.fin_nx, SO.fin_rt, SO.fin_ex, Br.v_app, Br.v_mth, Br.v_tup, Br.v_lst, Br.v_cst, Br.v_dnew, Br.v_var, Br.v_call, Br.v_and, Br.v_or, Br.v_not, Br.v_ite, Br.v_chain, Br.v_sl2, Br.v_comp, Br.v_aref, Br.v_aval, Br.v_as0, Br.v_as, Br.v_es0, Br.v_es, Br.v_tand, Br.v_tor, Br.v_tnot, Br.v_te, Br.v_ts0, Br.v_ts1, Br.v_seq, Br.v_rng1, Br.v_rng2, Br.v_enum, Br.v_zip, Br.v_popE, Br.v_dispV, Br.l_dispV', Br.v_popL, Br.l_popE, Br.l_popL, Br.kPopE_eq, Br.putE_some, Br.putE_none, Br.v_rev, Br.l_app, Br.l_mth', Br.l_lst', Br.l_dnew', Br.l_call', Br.l_comp', Br.l_var, Br.l_cst, Br.l_tup, Br.l_and, Br.l_or, Br.l_not, Br.l_ite, Br.l_chain, Br.l_sl2, Br.x_set, Br.x_unp, Br.x_par, Br.x_setIx, Br.x_app, Br.x_ext, Br.x_popA, Br.x_insA, Br.kPopA, Br.kIns1, Br.kIns2, Br.x_ex, Br.x_ret, Br.x_retV, Br.x_retN, Br.x_if, Br.x_whl, Br.x_brk, Br.x_cont, Br.x_pass, Br.x_raise, Br.kOp, Br.kVal, Br.kCons, Br.kAs, Br.kConsE, Br.kEs, Br.kTup, Br.kLst, Br.kCall, Br.kMth2, Br.kMth, Br.kAnd, Br.kOr, Br.kNot, Br.kIte, Br.kCh4, Br.kCh3, Br.kCh2b, Br.kCh2, Br.kCh1, Br.kS3, Br.kS2, Br.kS1, Br.kC6, Br.kC5, Br.kC4, Br.kC3, Br.kC0, Br.kC2, Br.kC1, Br.kTand, Br.kTor, Br.kTnot, Br.kTe, Br.kSeq, Br.kR1, Br.kR3, Br.kR2, Br.kEn, Br.kZ2, Br.kZ1, Br.kRv, Br.kOwn, Br.kFro, Br.kOwnV, Br.kCallL, Br.kSet, Br.kUnp, Br.kPar, Br.kSI2, Br.kSI1, Br.kApp, Br.kExt, Br.kEx, Br.kRet, Br.kIf, Br.kFor, Br.ifE_t, Br.ifE_f, Br.ifS_t, Br.ifS_f, Br.okE_eq, Br.cF, Br.x_for, ne_eq, reduceCtorEq, not_false_eq_true, implies_true, ER.bind_ok, ER.bind_ex, ER.bind_st, ER.so_ok, ER.so_ex, ER.so_st, ER.of_some, ER.of_none, SO.of_some, SO.of_none, Br.bindS_k, Br.bindK_some, Br.bindK_none, Tg.bind, Tg.binds, at', setIxP, AV.pvs, AV.pv, AV.lvs, AV.lv, AV.refs, AV.back, maskL, LV.isFro, LV.pv, Br.callE_k, Br.callK0_some, Br.callK_ok, Br.callK_ex, froE, Br.opX_add, Br.opX_sub, Br.opX_mul, Br.opX_fdiv, Br.opX_mod, Br.opX_pow, Br.opX_neg, Br.opX_eq, Br.opX_ne, Br.opX_lt, Br.opX_le, Br.opX_gt, Br.opX_ge, Br.opX_isN, Br.opX_isNN, Br.opX_inn, Br.opX_nin, Br.opX_len, Br.opX_sum, Br.opX_abs, Br.opX_int1, Br.opX_str1, Br.opX_tuple1, Br.opX_list1, Br.opX_sorted, Br.opX_allL, Br.opX_anyL, Br.opX_min2, Br.opX_max2, Br.opX_minL, Br.opX_maxL, Br.opX_idx, Br.opX_rev, Br.opX_dget, Br.opX_values, Br.opX_dmod, Br.opX_lcnt, Br.opX_tcnt, Br.opX_lidx, Br.opX_bits, Br.opX_sortedD, Br.opX_minD, Br.opX_maxD, Br.opX_isB, Br.opX_isNB, Br.opX_isTy, Br.opX_slc, Br.opX_isEx, Br.opX_dict1, Br.opX_tupleX, Br.dn_non, Br.dn_bl, Br.dn_int, Br.dn_str, Br.dn_ty, Br.dn_exc, Br.dn_tup, Br.dn_xt, Br.dn_lst, Br.dn_dK, Br.dn_dT, Br.dn_dn, Br.isD_dn, Br.eqP_dnl, Br.eqP_dnr, tupleXP, opSem, addP, subP, mulP, fdivP, modP, powP, negP, eqOP, neOP, ltOP, leOP, gtOP, geOP, isNP, isNNP, isBP, isNBP, PV.isNon, lenP, sumP, absP, int1P, str1P, tuple1P, list1P, min2P, max2P, idxP, slcP, slcPart, dmodP, isTyOP, isTys, isTyP, tyName, ownV, Op.new, wipeE, Br.backE_nil, Br.backE_cons, Br.froO_f, Br.froO_n, Br.froO_0, Br.froO_o, seqOf, parE, ownL, keyP, recvOk, PV.isD, PV.isT, Br.eqP_ii, Br.eqP_ss, Br.eqP_bb, Br.eqP_nn, Br.eqP_tt, Br.eqP_ll, Br.eqPs_00, Br.eqPs_0c, Br.eqPs_c0, Br.eqPs_cc, Br.eqPs_ints, Br.eqP_xl, Br.eqP_xr, Br.eqP_ni, Br.eqP_ns, Br.eqP_nt, Br.eqP_nl, Br.eqP_nb, Br.eqP_in, Br.eqP_is, Br.eqP_it, Br.eqP_il, Br.eqP_sn, Br.eqP_si, Br.eqP_st, Br.eqP_sl, Br.eqP_sb, Br.eqP_tn, Br.eqP_ti, Br.eqP_ts, Br.eqP_tl, Br.eqP_tb, Br.eqP_ln, Br.eqP_li, Br.eqP_ls, Br.eqP_lt, Br.eqP_lb, Br.eqP_bn, Br.eqP_bs, Br.eqP_bt, Br.eqP_bl, intsOf, List.getElem?_cons_zero, List.getElem?_cons_succ, List.getElem?_nil, List.set_cons_zero, List.set_cons_succ, List.map_cons, List.map_nil, List.cons_append, List.nil_append, List.length_cons, List.length_nil, List.replicate_succ, List.replicate_zero, List.append_nil, Option.bind_some, Option.bind_none, Option.map_some, Option.map_none, if_true, if_false, ite_true, ite_false, decide_true, decide_false, Bool.and_true, Bool.true_and, Bool.not_true, Bool.not_false, reduceIte, Option.isSome_some, Br.kit_NoneType_int, Br.kit_NoneType_bool, Br.kit_NoneType_str, Br.kit_NoneType_tuple, Br.kit_NoneType_list, Br.kit_NoneType_dict, Br.kit_bool_int, Br.kit_bool_bool, Br.kit_bool_str, Br.kit_bool_tuple, Br.kit_bool_list, Br.kit_bool_dict, Br.kit_int_int, Br.kit_int_bool, Br.kit_int_str, Br.kit_int_tuple, Br.kit_int_list, Br.kit_int_dict, Br.kit_str_int, Br.kit_str_bool, Br.kit_str_str, Br.kit_str_tuple, Br.kit_str_list, Br.kit_str_dict, Br.kit_tuple_int, Br.kit_tuple_bool, Br.kit_tuple_str, Br.kit_tuple_tuple, Br.kit_tuple_list, Br.kit_tuple_dict, Br.kit_list_int, Br.kit_list_bool, Br.kit_list_str, Br.kit_list_tuple, Br.kit_list_list, Br.kit_list_dict, Br.kit_dict_int, Br.kit_dict_bool, Br.kit_dict_str, Br.kit_dict_tuple, Br.kit_dict_list, Br.kit_dict_dict, L2.ixN, Br.rng_ok, Br.mul_ok_r, Br.mul_ok_l, LIM, Br.PV.i_int, Br.log2_lt_9000, Br.atI_0, Br.atI_1, Br.atI_2, lcntP, lidxP, bitsP, revP, cntP, sortedDP, minDP, maxDP, sortX, Br.x_try, Br.tryK_nx, Br.tryK_rt, Br.tryK_bk, Br.tryK_ct, Br.suiteX_nx, Br.suiteX_bk, Br.suiteX_ct, Br.suiteX_rt, Br.setX_some, Br.setX_none, Br.goneX_some, Br.goneX_none, Br.x_lock, Br.kLock_d, Br.lockR_nx, Br.lockR_rt, Br.l_callT', Br.v_callT, Br.kT1, Br.kT2, Br.kT3, Br.kT4_eq, Br.dropT_ok, Br.dropT_ex, Br.dropT_st, Br.sh_val, Br.sh_ref, Br.kXt, Br.v_xtup, Br.l_xtup, Br.lockV_s, Br.thin_0, Br.thin_c, Br.thinO_n, Br.thinO_s, Br.thinL_f, Br.thinL_l, Br.thinL_d, Br.thinL_t, Br.noD_n, Br.noD_b, Br.noD_i, Br.noD_s, Br.noD_e, Br.noD_t, Br.noD_x, Br.noD_l, Br.noD_d, Br.noDs_0, Br.noDs_c, Br.noDs_i, bd_law_counts_30cb_1, hl, ph_law_counts_30cb, eu, ev, ez, ey]); all_goals rfl), n3', b, cs ++ [t], some (.fro (.int (i : Nat))), z2, hb0, hb1, by simp [hlen], app t ht0 ht1, by simp⟩
            · obtain ⟨u, n', u0, u1, u2, eu⟩ := take_9d40 (m := b + 1) hn (by omega) (by unfold BIG at hb1; omega)
              refine ⟨_, .inl (by (conv => lhs; simp -implicitDefEqProofs [ioOk, Br.frameOf, lvsOf, Br.exSs_nil, Br.exSs_cons, SO.seq_nx, SO.seq_rt, SO.seq_ex, SO.seq_bk, SO.seq_ct, SO.seq_st, SO.fin_nx, SO.fin_rt, SO.fin_ex, Br.v_app, Br.v_mth, Br.v_tup, Br.v_lst, Br.v_cst, Br.v_dnew, Br.v_var, Br.v_call, Br.v_and, Br.v_or, Br.v_not, Br.v_ite, Br.v_chain, Br.v_sl2, Br.v_comp, Br.v_aref, Br.v_aval, Br.v_as0, Br.v_as, Br.v_es0, Br.v_es, Br.v_tand, Br.v_tor, Br.v_tnot, Br.v_te, Br.v_ts0, Br.v_ts1, Br.v_seq, Br.v_rng1, Br.v_rng2, Br.v_enum, Br.v_zip, Br.v_popE, Br.v_dispV, Br.l_dispV', Br.v_popL, Br.l_popE, Br.l_popL, Br.kPopE_eq, Br.putE_some, Br.putE_none, Br.v_rev, Br.l_app, Br.l_mth', Br.l_lst', Br.l_dnew', Br.l_call', Br.l_comp', Br.l_var, Br.l_cst, Br.l_tup, Br.l_and, Br.l_or, Br.l_not, Br.l_ite, Br.l_chain, Br.l_sl2, Br.x_set, Br.x_unp, Br.x_par, Br.x_setIx, Br.x_app, Br.x_ext, Br.x_popA, Br.x_insA, Br.kPopA, Br.kIns1, Br.kIns2, Br.x_ex, Br.x_ret, Br.x_retV, Br.x_retN, Br.x_if, Br.x_whl, Br.x_brk, Br.x_cont, Br.x_pass, Br.x_raise, Br.kOp, Br.kVal, Br.kCons, Br.kAs, Br.kConsE, Br.kEs, Br.kTup, Br.kLst, Br.kCall, Br.kMth2, Br.kMth, Br.kAnd, Br.kOr, Br.kNot, Br.kIte, Br.kCh4, Br.kCh3, Br.kCh2b, Br.kCh2, Br.kCh1, Br.kS3, Br.kS2, Br.kS1, Br.kC6, Br.kC5, Br.kC4, Br.kC3, Br.kC0, Br.kC2, Br.kC1, Br.kTand, Br.kTor, Br.kTnot, Br.kTe, Br.kSeq, Br.kR1, Br.kR3, Br.kR2, Br.kEn, Br.kZ2, Br.kZ1, Br.kRv, Br.kOwn, Br.kFro, Br.kOwnV, Br.kCallL, Br.kSet, Br.kUnp, Br.kPar, Br.kSI2, Br.kSI1, Br.kApp, Br.kExt, Br.kEx, Br.kRet, Br.kIf, Br.kFor, Br.ifE_t, Br.ifE_f, Br.ifS_t, Br.ifS_f, Br.okE_eq, Br.cF, Br.x_for, ne_eq, reduceCtorEq, not_false_eq_true, implies_true, ER.bind_ok, ER.bind_ex, ER.bind_st, ER.so_ok, ER.so_ex, ER.so_st, ER.of_some, ER.of_none, SO.of_some, SO.of_none, Br.bindS_k, Br.bindK_some, Br.bindK_none, Tg.bind, Tg.binds, at', setIxP, AV.pvs, AV.pv, AV.lvs, AV.lv, AV.refs, AV.back, maskL, LV.isFro, LV.pv, Br.callE_k, Br.callK0_some, Br.callK_ok, Br.callK_ex, froE, Br.opX_add, Br.opX_sub, Br.opX_mul, Br.opX_fdiv, Br.opX_mod, Br.opX_pow, Br.opX_neg, Br.opX_eq, Br.opX_ne, Br.opX_lt, Br.opX_le, Br.opX_gt, Br.opX_ge, Br.opX_isN, Br.opX_isNN, Br.opX_inn, Br.opX_nin, Br.opX_len, Br.opX_sum, Br.opX_abs, Br.opX_int1, Br.opX_str1, Br.opX_tuple1, Br.opX_list1, Br.opX_sorted, Br.opX_allL, Br.opX_anyL, Br.opX_min2, Br.opX_max2, Br.opX_minL, Br.opX_maxL, Br.opX_idx, Br.opX_rev, Br.opX_dget, Br.opX_values, Br.opX_dmod, Br.opX_lcnt, Br.opX_tcnt, Br.opX_lidx, Br.opX_bits, Br.opX_sortedD, Br.opX_minD, Br.opX_maxD, Br.opX_isB, Br.opX_isNB, Br.opX_isTy, Br.opX_slc, Br.opX_isEx, Br.opX_dict1, Br.opX_tupleX, Br.dn_non, Br.dn_bl, Br.dn_int, Br.dn_str, Br.dn_ty, Br.dn_exc, Br.dn_tup, Br.dn_xt, Br.dn_lst, Br.dn_dK, Br.dn_dT, Br.dn_dn, Br.isD_dn, Br.eqP_dnl, Br.eqP_dnr, tupleXP, opSem, addP, subP, mulP, fdivP, modP, powP, negP, eqOP, neOP, ltOP, leOP, gtOP, geOP, isNP, isNNP, isBP, isNBP, PV.isNon, lenP, sumP, absP, int1P, str1P, tuple1P, list1P, min2P, max2P, idxP, slcP, slcPart, dmodP, isTyOP, isTys, isTyP, tyName, ownV, Op.new, wipeE, Br.backE_nil, Br.backE_cons, Br.froO_f, Br.froO_n, Br.froO_0, Br.froO_o, seqOf, parE, ownL, keyP, recvOk, PV.isD, PV.isT, Br.eqP_ii, Br.eqP_ss, Br.eqP_bb, Br.eqP_nn, Br.eqP_tt, Br.eqP_ll, Br.eqPs_00, Br.eqPs_0c, Br.eqPs_c0, Br.eqPs_cc, Br.eqPs_ints, Br.eqP_xl, Br.eqP_xr, Br.eqP_ni, Br.eqP_ns, Br.eqP_nt, Br.eqP_nl, Br.eqP_nb, Br.eqP_in, Br.eqP_is, Br.eqP_it, Br.eqP_il, Br.eqP_sn, Br.eqP_si, Br.eqP_st, Br.eqP_sl, Br.eqP_sb, Br.eqP_tn, Br.eqP_ti, Br.eqP_ts, Br.eqP_tl, Br.eqP_tb, Br.eqP_ln, Br.eqP_li, Br.eqP_ls, Br.eqP_lt, Br.eqP_lb, Br.eqP_bn, Br.eqP_bs, Br.eqP_bt, Br.eqP_bl, intsOf, List.getElem?_cons_zero, List.getElem?_cons_succ, List.getElem?_nil, List.set_cons_zero, List.set_cons_succ, List.map_cons, List.map_nil, List.cons_append, List.nil_append, List.length_cons, List.length_nil, List.replicate_succ, List.replicate_zero, List.append_nil, Option.bind_some, Option.bind_none, Option.map_some, Option.map_none, if_true, if_false, ite_true, ite_false, decide_true, decide_false, Bool.and_true, Bool.true_and, Bool.not_true, Bool.not_false, reduceIte, Option.isSome_some, Br.kit_NoneType_int, Br.kit_NoneType_bool, Br.kit_NoneType_str, Br.kit_NoneType_tuple, Br.kit_NoneType_list, Br.kit_NoneType_dict, Br.kit_bool_int, Br.kit_bool_bool, Br.kit_bool_str, Br.kit_bool_tuple, Br.kit_bool_list, Br.kit_bool_dict, Br.kit_int_int, Br.kit_int_bool, Br.kit_int_str, Br.kit_int_tuple, Br.kit_int_list, Br.kit_int_dict, Br.kit_str_int, Br.kit_str_bool, Br.kit_str_str, Br.kit_str_tuple, Br.kit_str_list, Br.kit_str_dict, Br.kit_tuple_int, Br.kit_tuple_bool, Br.kit_tuple_str, Br.kit_tuple_tuple, Br.kit_tuple_list, Br.kit_tuple_dict, Br.kit_list_int, Br.kit_list_bool, Br.kit_list_str, Br.kit_list_tuple, Br.kit_list_list, Br.kit_list_dict, Br.kit_dict_int, Br.kit_dict_bool, Br.kit_dict_str, Br.kit_dict_tuple, Br.kit_dict_list, Br.kit_dict_dict, L2.ixN, Br.rng_ok, Br.mul_ok_r, Br.mul_ok_l, LIM, Br.PV.i_int, Br.log2_lt_9000, Br.atI_0, Br.atI_1, Br.atI_2, lcntP, lidxP, bitsP, revP, cntP, sortedDP, minDP, maxDP, sortX, Br.x_try, Br.tryK_nx, Br.tryK_rt, Br.tryK_bk, Br.tryK_ct, Br.suiteX_nx, Br.suiteX_bk, Br.suiteX_ct, Br.suiteX_rt, Br.setX_some, Br.setX_none, Br.goneX_some, Br.goneX_none, Br.x_lock, Br.kLock_d, Br.lockR_nx, Br.lockR_rt, Br.l_callT', Br.v_callT, Br.kT1, Br.kT2, Br.kT3, Br.kT4_eq, Br.dropT_ok, Br.dropT_ex, Br.dropT_st, Br.sh_val, Br.sh_ref, Br.kXt, Br.v_xtup, Br.l_xtup, Br.lockV_s, Br.thin_0, Br.thin_c, Br.thinO_n, Br.thinO_s, Br.thinL_f, Br.thinL_l, Br.thinL_d, Br.thinL_t, Br.noD_n, Br.noD_b, Br.noD_i, Br.noD_s, Br.noD_e, Br.noD_t, Br.noD_x, Br.noD_l, Br.noD_d, Br.noDs_0, Br.noDs_c, Br.noDs_i, bd_law_counts_30cb_1, k0, k1, k2, k3, hl, ph_law_counts_30cb, eu]); all_goals rfl), n', b, cs ++ [u], some (.fro (.int (i : Nat))), u2, hb0, hb1, by simp [hlen], app u u0 (by omega), by simp⟩)
  obtain ⟨ρ', h1, n', b', cs, l5, hn, _, _, hlen, hcs, rfl⟩ := key
  rw [h1]
  rw [rngP_len] at hlen
  exact ⟨cs, by omega, by omega, hcs, n', hn, by simp -implicitDefEqProofs [ioOk, Br.frameOf, lvsOf, Br.exSs_nil, Br.exSs_cons, SO.seq_nx, SO.seq_rt, SO.seq_ex, SO.seq_bk, SO.seq_ct, SO.seq_st, SO.fin_nx, SO.fin_rt, SO.fin_ex, Br.v_app, Br.v_mth, Br.v_tup, Br.v_lst, Br.v_cst, Br.v_dnew, Br.v_var, Br.v_call, Br.v_and, Br.v_or, Br.v_not, Br.v_ite, Br.v_chain, Br.v_sl2, Br.v_comp, Br.v_aref, Br.v_aval, Br.v_as0, Br.v_as, Br.v_es0, Br.v_es, Br.v_tand, Br.v_tor, Br.v_tnot, Br.v_te, Br.v_ts0, Br.v_ts1, Br.v_seq, Br.v_rng1, Br.v_rng2, Br.v_enum, Br.v_zip, Br.v_popE, Br.v_dispV, Br.l_dispV', Br.v_popL, Br.l_popE, Br.l_popL, Br.kPopE_eq, Br.putE_some, Br.putE_none, Br.v_rev, Br.l_app, Br.l_mth', Br.l_lst', Br.l_dnew', Br.l_call', Br.l_comp', Br.l_var, Br.l_cst, Br.l_tup, Br.l_and, Br.l_or, Br.l_not, Br.l_ite, Br.l_chain, Br.l_sl2, Br.x_set, Br.x_unp, Br.x_par, Br.x_setIx, Br.x_app, Br.x_ext, Br.x_popA, Br.x_insA, Br.kPopA, Br.kIns1, Br.kIns2, Br.x_ex, Br.x_ret, Br.x_retV, Br.x_retN, Br.x_if, Br.x_whl, Br.x_brk, Br.x_cont, Br.x_pass, Br.x_raise, Br.kOp, Br.kVal, Br.kCons, Br.kAs, Br.kConsE, Br.kEs, Br.kTup, Br.kLst, Br.kCall, Br.kMth2, Br.kMth, Br.kAnd, Br.kOr, Br.kNot, Br.kIte, Br.kCh4, Br.kCh3, Br.kCh2b, Br.kCh2, Br.kCh1, Br.kS3, Br.kS2, Br.kS1, Br.kC6, Br.kC5, Br.kC4, Br.kC3, Br.kC0, Br.kC2, Br.kC1, Br.kTand, Br.kTor, Br.kTnot, Br.kTe, Br.kSeq, Br.kR1, Br.kR3, Br.kR2, Br.kEn, Br.kZ2, Br.kZ1, Br.kRv, Br.kOwn, Br.kFro, Br.kOwnV, Br.kCallL, Br.kSet, Br.kUnp, Br.kPar, Br.kSI2, Br.kSI1, Br.kApp, Br.kExt, Br.kEx, Br.kRet, Br.kIf, Br.kFor, Br.ifE_t, Br.ifE_f, Br.ifS_t, Br.ifS_f, Br.okE_eq, Br.cF, Br.x_for, ne_eq, reduceCtorEq, not_false_eq_true, implies_true, ER.bind_ok, ER.bind_ex, ER.bind_st, ER.so_ok, ER.so_ex, ER.so_st, ER.of_some, ER.of_none, SO.of_some, SO.of_none, Br.bindS_k, Br.bindK_some, Br.bindK_none, Tg.bind, Tg.binds, at', setIxP, AV.pvs, AV.pv, AV.lvs, AV.lv, AV.refs, AV.back, maskL, LV.isFro, LV.pv, Br.callE_k, Br.callK0_some, Br.callK_ok, Br.callK_ex, froE, Br.opX_add, Br.opX_sub, Br.opX_mul, Br.opX_fdiv, Br.opX_mod, Br.opX_pow, Br.opX_neg, Br.opX_eq, Br.opX_ne, Br.opX_lt, Br.opX_le, Br.opX_gt, Br.opX_ge, Br.opX_isN, Br.opX_isNN, Br.opX_inn, Br.opX_nin, Br.opX_len, Br.opX_sum, Br.opX_abs, Br.opX_int1, Br.opX_str1, Br.opX_tuple1, Br.opX_list1, Br.opX_sorted, Br.opX_allL, Br.opX_anyL, Br.opX_min2, Br.opX_max2, Br.opX_minL, Br.opX_maxL, Br.opX_idx, Br.opX_rev, Br.opX_dget, Br.opX_values, Br.opX_dmod, Br.opX_lcnt, Br.opX_tcnt, Br.opX_lidx, Br.opX_bits, Br.opX_sortedD, Br.opX_minD, Br.opX_maxD, Br.opX_isB, Br.opX_isNB, Br.opX_isTy, Br.opX_slc, Br.opX_isEx, Br.opX_dict1, Br.opX_tupleX, Br.dn_non, Br.dn_bl, Br.dn_int, Br.dn_str, Br.dn_ty, Br.dn_exc, Br.dn_tup, Br.dn_xt, Br.dn_lst, Br.dn_dK, Br.dn_dT, Br.dn_dn, Br.isD_dn, Br.eqP_dnl, Br.eqP_dnr, tupleXP, opSem, addP, subP, mulP, fdivP, modP, powP, negP, eqOP, neOP, ltOP, leOP, gtOP, geOP, isNP, isNNP, isBP, isNBP, PV.isNon, lenP, sumP, absP, int1P, str1P, tuple1P, list1P, min2P, max2P, idxP, slcP, slcPart, dmodP, isTyOP, isTys, isTyP, tyName, ownV, Op.new, wipeE, Br.backE_nil, Br.backE_cons, Br.froO_f, Br.froO_n, Br.froO_0, Br.froO_o, seqOf, parE, ownL, keyP, recvOk, PV.isD, PV.isT, Br.eqP_ii, Br.eqP_ss, Br.eqP_bb, Br.eqP_nn, Br.eqP_tt, Br.eqP_ll, Br.eqPs_00, Br.eqPs_0c, Br.eqPs_c0, Br.eqPs_cc, Br.eqPs_ints, Br.eqP_xl, Br.eqP_xr, Br.eqP_ni, Br.eqP_ns, Br.eqP_nt, Br.eqP_nl, Br.eqP_nb, Br.eqP_in, Br.eqP_is, Br.eqP_it, Br.eqP_il, Br.eqP_sn, Br.eqP_si, Br.eqP_st, Br.eqP_sl, Br.eqP_sb, Br.eqP_tn, Br.eqP_ti, Br.eqP_ts, Br.eqP_tl, Br.eqP_tb, Br.eqP_ln, Br.eqP_li, Br.eqP_ls, Br.eqP_lt, Br.eqP_lb, Br.eqP_bn, Br.eqP_bs, Br.eqP_bt, Br.eqP_bl, intsOf, List.getElem?_cons_zero, List.getElem?_cons_succ, List.getElem?_nil, List.set_cons_zero, List.set_cons_succ, List.map_cons, List.map_nil, List.cons_append, List.nil_append, List.length_cons, List.length_nil, List.replicate_succ, List.replicate_zero, List.append_nil, Option.bind_some, Option.bind_none, Option.map_some, Option.map_none, if_true, if_false, ite_true, ite_false, decide_true, decide_false, Bool.and_true, Bool.true_and, Bool.not_true, Bool.not_false, reduceIte, Option.isSome_some, Br.kit_NoneType_int, Br.kit_NoneType_bool, Br.kit_NoneType_str, Br.kit_NoneType_tuple, Br.kit_NoneType_list, Br.kit_NoneType_dict, Br.kit_bool_int, Br.kit_bool_bool, Br.kit_bool_str, Br.kit_bool_tuple, Br.kit_bool_list, Br.kit_bool_dict, Br.kit_int_int, Br.kit_int_bool, Br.kit_int_str, Br.kit_int_tuple, Br.kit_int_list, Br.kit_int_dict, Br.kit_str_int, Br.kit_str_bool, Br.kit_str_str, Br.kit_str_tuple, Br.kit_str_list, Br.kit_str_dict, Br.kit_tuple_int, Br.kit_tuple_bool, Br.kit_tuple_str, Br.kit_tuple_tuple, Br.kit_tuple_list, Br.kit_tuple_dict, Br.kit_list_int, Br.kit_list_bool, Br.kit_list_str, Br.kit_list_tuple, Br.kit_list_list, Br.kit_list_dict, Br.kit_dict_int, Br.kit_dict_bool, Br.kit_dict_str, Br.kit_dict_tuple, Br.kit_dict_list, Br.kit_dict_dict, L2.ixN, Br.rng_ok, Br.mul_ok_r, Br.mul_ok_l, LIM, Br.PV.i_int, Br.log2_lt_9000, Br.atI_0, Br.atI_1, Br.atI_2, lcntP, lidxP, bitsP, revP, cntP, sortedDP, minDP, maxDP, sortX, Br.x_try, Br.tryK_nx, Br.tryK_rt, Br.tryK_bk, Br.tryK_ct, Br.suiteX_nx, Br.suiteX_bk, Br.suiteX_ct, Br.suiteX_rt, Br.setX_some, Br.setX_none, Br.goneX_some, Br.goneX_none, Br.x_lock, Br.kLock_d, Br.lockR_nx, Br.lockR_rt, Br.l_callT', Br.v_callT, Br.kT1, Br.kT2, Br.kT3, Br.kT4_eq, Br.dropT_ok, Br.dropT_ex, Br.dropT_st, Br.sh_val, Br.sh_ref, Br.kXt, Br.v_xtup, Br.l_xtup, Br.lockV_s, Br.thin_0, Br.thin_c, Br.thinO_n, Br.thinO_s, Br.thinL_f, Br.thinL_l, Br.thinL_d, Br.thinL_t, Br.noD_n, Br.noD_b, Br.noD_i, Br.noD_s, Br.noD_e, Br.noD_t, Br.noD_x, Br.noD_l, Br.noD_d, Br.noDs_0, Br.noDs_c, Br.noDs_i]⟩
end Cm
set_option maxHeartbeats 0
namespace Cm
open PySem Br
def ir_are_enough_4dd2 : Fn := ⟨3, 3, [0, 1, 2], [.ret (.app .ge [.val (.app .sum [.val (.call 629 [.ref 0, .ref 2])]), .val (.app .mul [.ref 1, .ref 2])])]⟩
def ph_are_enough_4dd2 : Nat → List LV → CR := fun j => match j with | 629 => g_used_of_c33a | _ => fun _ => .st
def g_are_enough_4dd2 : List LV → CR := runFn ph_are_enough_4dd2 1000000 ir_are_enough_4dd2
-- use: U_list
theorem enough_4dd2 (cs : List Int) (d m : Int) (hl : cs.length ≤ 1000000) (hd : d.natAbs < 18446744073709551616) : g_are_enough_4dd2 [.fro (.tup (cs.map .int)), .fro (.int d), .fro (.int m)] = .ok (.fro (.bl (decide (d * m ≤ (cs.map fun c => if m < c then m else c).sum)))) [.fro (.tup (cs.map .int)), .fro (.int d), .fro (.int m)] := by
  (unfold g_are_enough_4dd2 ir_are_enough_4dd2; rw [runFn_eq _ _ _ _ ⟨rfl, by decide, rfl⟩])
  have e : (cs.map fun c => PV.int (if m < c then m else c)) = (cs.map fun c => if m < c then m else c).map PV.int := by rw [List.map_map]; rfl
  simp -implicitDefEqProofs [ioOk, Br.frameOf, lvsOf, Br.exSs_nil, Br.exSs_cons, SO.seq_nx, SO.seq_rt, SO.seq_ex, SO.seq_bk, SO.seq_ct, SO.seq_st, SO.fin_nx, SO.fin_rt, SO.fin_ex, Br.v_app, Br.v_mth, Br.v_tup, Br.v_lst, Br.v_cst, Br.v_dnew, Br.v_var, Br.v_call, Br.v_and, Br.v_or, Br.v_not, Br.v_ite, Br.v_chain, Br.v_sl2, Br.v_comp, Br.v_aref, Br.v_aval, Br.v_as0, Br.v_as, Br.v_es0, Br.v_es, Br.v_tand, Br.v_tor, Br.v_tnot, Br.v_te, Br.v_ts0, Br.v_ts1, Br.v_seq, Br.v_rng1, Br.v_rng2, Br.v_enum, Br.v_zip, Br.v_popE, Br.v_dispV, Br.l_dispV', Br.v_popL, Br.l_popE, Br.l_popL, Br.kPopE_eq, Br.putE_some, Br.putE_none, Br.v_rev, Br.l_app, Br.l_mth', Br.l_lst', Br.l_dnew', Br.l_call', Br.l_comp', Br.l_var, Br.l_cst, Br.l_tup, Br.l_and, Br.l_or, Br.l_not, Br.l_ite, Br.l_chain, Br.l_sl2, Br.x_set, Br.x_unp, Br.x_par, Br.x_setIx, Br.x_app, Br.x_ext, Br.x_popA, Br.x_insA, Br.kPopA, Br.kIns1, Br.kIns2, Br.x_ex, Br.x_ret, Br.x_retV, Br.x_retN, Br.x_if, Br.x_whl, Br.x_brk, Br.x_cont, Br.x_pass, Br.x_raise, Br.kOp, Br.kVal, Br.kCons, Br.kAs, Br.kConsE, Br.kEs, Br.kTup, Br.kLst, Br.kCall, Br.kMth2, Br.kMth, Br.kAnd, Br.kOr, Br.kNot, Br.kIte, Br.kCh4, Br.kCh3, Br.kCh2b, Br.kCh2, Br.kCh1, Br.kS3, Br.kS2, Br.kS1, Br.kC6, Br.kC5, Br.kC4, Br.kC3, Br.kC0, Br.kC2, Br.kC1, Br.kTand, Br.kTor, Br.kTnot, Br.kTe, Br.kSeq, Br.kR1, Br.kR3, Br.kR2, Br.kEn, Br.kZ2, Br.kZ1, Br.kRv, Br.kOwn, Br.kFro, Br.kOwnV, Br.kCallL, Br.kSet, Br.kUnp, Br.kPar, Br.kSI2, Br.kSI1, Br.kApp, Br.kExt, Br.kEx, Br.kRet, Br.kIf, Br.kFor, Br.ifE_t, Br.ifE_f, Br.ifS_t, Br.ifS_f, Br.okE_eq, Br.cF, Br.x_for, ne_eq, reduceCtorEq, not_false_eq_true, implies_true, ER.bind_ok, ER.bind_ex, ER.bind_st, ER.so_ok, ER.so_ex, ER.so_st, ER.of_some, ER.of_none, SO.of_some, SO.of_none, Br.bindS_k, Br.bindK_some, Br.bindK_none, Tg.bind, Tg.binds, at', setIxP, AV.pvs, AV.pv, AV.lvs, AV.lv, AV.refs, AV.back, maskL, LV.isFro, LV.pv, Br.callE_k, Br.callK0_some, Br.callK_ok, Br.callK_ex, froE, Br.opX_add, Br.opX_sub, Br.opX_mul, Br.opX_fdiv, Br.opX_mod, Br.opX_pow, Br.opX_neg, Br.opX_eq, Br.opX_ne, Br.opX_lt, Br.opX_le, Br.opX_gt, Br.opX_ge, Br.opX_isN, Br.opX_isNN, Br.opX_inn, Br.opX_nin, Br.opX_len, Br.opX_sum, Br.opX_abs, Br.opX_int1, Br.opX_str1, Br.opX_tuple1, Br.opX_list1, Br.opX_sorted, Br.opX_allL, Br.opX_anyL, Br.opX_min2, Br.opX_max2, Br.opX_minL, Br.opX_maxL, Br.opX_idx, Br.opX_rev, Br.opX_dget, Br.opX_values, Br.opX_dmod, Br.opX_lcnt, Br.opX_tcnt, Br.opX_lidx, Br.opX_bits, Br.opX_sortedD, Br.opX_minD, Br.opX_maxD, Br.opX_isB, Br.opX_isNB, Br.opX_isTy, Br.opX_slc, Br.opX_isEx, Br.opX_dict1, Br.opX_tupleX, Br.dn_non, Br.dn_bl, Br.dn_int, Br.dn_str, Br.dn_ty, Br.dn_exc, Br.dn_tup, Br.dn_xt, Br.dn_lst, Br.dn_dK, Br.dn_dT, Br.dn_dn, Br.isD_dn, Br.eqP_dnl, Br.eqP_dnr, tupleXP, opSem, addP, subP, mulP, fdivP, modP, powP, negP, eqOP, neOP, ltOP, leOP, gtOP, geOP, isNP, isNNP, isBP, isNBP, PV.isNon, lenP, sumP, absP, int1P, str1P, tuple1P, list1P, min2P, max2P, idxP, slcP, slcPart, dmodP, isTyOP, isTys, isTyP, tyName, ownV, Op.new, wipeE, Br.backE_nil, Br.backE_cons, Br.froO_f, Br.froO_n, Br.froO_0, Br.froO_o, seqOf, parE, ownL, keyP, recvOk, PV.isD, PV.isT, Br.eqP_ii, Br.eqP_ss, Br.eqP_bb, Br.eqP_nn, Br.eqP_tt, Br.eqP_ll, Br.eqPs_00, Br.eqPs_0c, Br.eqPs_c0, Br.eqPs_cc, Br.eqPs_ints, Br.eqP_xl, Br.eqP_xr, Br.eqP_ni, Br.eqP_ns, Br.eqP_nt, Br.eqP_nl, Br.eqP_nb, Br.eqP_in, Br.eqP_is, Br.eqP_it, Br.eqP_il, Br.eqP_sn, Br.eqP_si, Br.eqP_st, Br.eqP_sl, Br.eqP_sb, Br.eqP_tn, Br.eqP_ti, Br.eqP_ts, Br.eqP_tl, Br.eqP_tb, Br.eqP_ln, Br.eqP_li, Br.eqP_ls, Br.eqP_lt, Br.eqP_lb, Br.eqP_bn, Br.eqP_bs, Br.eqP_bt, Br.eqP_bl, intsOf, List.getElem?_cons_zero, List.getElem?_cons_succ, List.getElem?_nil, List.set_cons_zero, List.set_cons_succ, List.map_cons, List.map_nil, List.cons_append, List.nil_append, List.length_cons, List.length_nil, List.replicate_succ, List.replicate_zero, List.append_nil, Option.bind_some, Option.bind_none, Option.map_some, Option.map_none, if_true, if_false, ite_true, ite_false, decide_true, decide_false, Bool.and_true, Bool.true_and, Bool.not_true, Bool.not_false, reduceIte, Option.isSome_some, Br.kit_NoneType_int, Br.kit_NoneType_bool, Br.kit_NoneType_str, Br.kit_NoneType_tuple, Br.kit_NoneType_list, Br.kit_NoneType_dict, Br.kit_bool_int, Br.kit_bool_bool, Br.kit_bool_str, Br.kit_bool_tuple, Br.kit_bool_list, Br.kit_bool_dict, Br.kit_int_int, Br.kit_int_bool, Br.kit_int_str, Br.kit_int_tuple, Br.kit_int_list, Br.kit_int_dict, Br.kit_str_int, Br.kit_str_bool, Br.kit_str_str, Br.kit_str_tuple, Br.kit_str_list, Br.kit_str_dict, Br.kit_tuple_int, Br.kit_tuple_bool, Br.kit_tuple_str, Br.kit_tuple_tuple, Br.kit_tuple_list, Br.kit_tuple_dict, Br.kit_list_int, Br.kit_list_bool, Br.kit_list_str, Br.kit_list_tuple, Br.kit_list_list, Br.kit_list_dict, Br.kit_dict_int, Br.kit_dict_bool, Br.kit_dict_str, Br.kit_dict_tuple, Br.kit_dict_list, Br.kit_dict_dict, L2.ixN, Br.rng_ok, Br.mul_ok_r, Br.mul_ok_l, LIM, Br.PV.i_int, Br.log2_lt_9000, Br.atI_0, Br.atI_1, Br.atI_2, lcntP, lidxP, bitsP, revP, cntP, sortedDP, minDP, maxDP, sortX, Br.x_try, Br.tryK_nx, Br.tryK_rt, Br.tryK_bk, Br.tryK_ct, Br.suiteX_nx, Br.suiteX_bk, Br.suiteX_ct, Br.suiteX_rt, Br.setX_some, Br.setX_none, Br.goneX_some, Br.goneX_none, Br.x_lock, Br.kLock_d, Br.lockR_nx, Br.lockR_rt, Br.l_callT', Br.v_callT, Br.kT1, Br.kT2, Br.kT3, Br.kT4_eq, Br.dropT_ok, Br.dropT_ex, Br.dropT_st, Br.sh_val, Br.sh_ref, Br.kXt, Br.v_xtup, Br.l_xtup, Br.lockV_s, Br.thin_0, Br.thin_c, Br.thinO_n, Br.thinO_s, Br.thinL_f, Br.thinL_l, Br.thinL_d, Br.thinL_t, Br.noD_n, Br.noD_b, Br.noD_i, Br.noD_s, Br.noD_e, Br.noD_t, Br.noD_x, Br.noD_l, Br.noD_d, Br.noDs_0, Br.noDs_c, Br.noDs_i, ph_are_enough_4dd2, used_c33a cs m hl, e, -List.map_map, hd]
end Cm
set_option maxHeartbeats 0
namespace Cm
open PySem Br
-- use: U_list
/-! how many bins -/
/-- what the counts give, each at most m -/
def Sm (cs : List Int) (m : Int) : Int := (cs.map fun c => if m < c then m else c).sum
theorem Sm_zero {cs : List Int} (h : ∀ c ∈ cs, 0 ≤ c) : Sm cs 0 = 0 := by
  unfold Sm
  induction cs with
  | nil => rfl
  | cons c cs ih =>
    have h0 := h c (by simp)
    have := ih fun x hx => h x (by simp [hx])
    simp only [List.map_cons, List.sum_cons, this]
    split <;> omega
theorem Sm_le {cs : List Int} (m : Int) : Sm cs m ≤ cs.sum := by
  unfold Sm
  induction cs with
  | nil => simp
  | cons c cs ih =>
    simp only [List.map_cons, List.sum_cons]
    split <;> omega
theorem sum_nonneg {cs : List Int} (h : ∀ c ∈ cs, 0 ≤ c) : 0 ≤ cs.sum := by
  induction cs with
  | nil => simp
  | cons c cs ih =>
    have h0 := h c (by simp)
    have := ih fun x hx => h x (by simp [hx])
    simp only [List.sum_cons]
    omega
/-- so many bins can be filled -/
def good (cs : List Int) (d t : Int) : Prop := d * t ≤ Sm cs t
/-- the most of them -/
def IsM (cs : List Int) (d r : Int) : Prop := 0 ≤ r ∧ good cs d r ∧ ¬ good cs d (r + 1)
theorem Sm_nil (t : Int) : Sm [] t = 0 := rfl
theorem Sm_cons (c : Int) (cs : List Int) (t : Int) : Sm (c :: cs) t = (if t < c then t else c) + Sm cs t := by
  unfold Sm
  rw [List.map_cons, List.sum_cons]
theorem Sm_app (a b : List Int) (t : Int) : Sm (a ++ b) t = Sm a t + Sm b t := by
  induction a with
  | nil => rw [Sm_nil]; simp
  | cons c a ih => rw [List.cons_append, Sm_cons, Sm_cons, ih]; omega
/-- the smaller number's part is no less -/
theorem Sm_star {cs : List Int} (h : ∀ c ∈ cs, 0 ≤ c) {s t : Int} (hs : 0 ≤ s) (ht : s ≤ t) : s * Sm cs t ≤ t * Sm cs s := by
  induction cs with
  | nil => rw [Sm_nil, Sm_nil]; simp
  | cons c cs ih =>
    have h0 := h c (by simp)
    have := ih fun x hx => h x (by simp [hx])
    rw [Sm_cons, Sm_cons, Int.mul_add, Int.mul_add]
    have key : s * (if t < c then t else c) ≤ t * (if s < c then s else c) := by
      by_cases c1 : t < c
      · rw [if_pos c1, if_pos (by omega), Int.mul_comm]
        exact Int.le_refl _
      · rw [if_neg c1]
        by_cases c2 : s < c
        · rw [if_pos c2, Int.mul_comm t s]
          exact Int.mul_le_mul_of_nonneg_left (by omega) hs
        · rw [if_neg c2]
          exact Int.mul_le_mul_of_nonneg_right ht h0
    omega
theorem good_down {cs : List Int} {d s t : Int} (h : ∀ c ∈ cs, 0 ≤ c) (hs : 0 ≤ s) (ht : s ≤ t) (g : good cs d t) : good cs d s := by
  unfold good at *
  by_cases c : t = 0
  · have : s = 0 := by omega
    subst this
    rw [Sm_zero h]
    simp
  · have h1 := Sm_star h hs ht
    have h2 : s * (d * t) ≤ s * Sm cs t := Int.mul_le_mul_of_nonneg_left g hs
    have h3 : t * (d * s) ≤ t * Sm cs s := by
      have e : t * (d * s) = s * (d * t) := by
        rw [Int.mul_comm t (d * s), Int.mul_comm d s, Int.mul_assoc]
      omega
    exact Int.le_of_mul_le_mul_left h3 (by omega)
theorem IsM.iff {cs : List Int} {d r : Int} (h : ∀ c ∈ cs, 0 ≤ c) (m : IsM cs d r) {s : Int} (hs : 0 ≤ s) : good cs d s ↔ s ≤ r := by
  obtain ⟨m0, m1, m2⟩ := m
  constructor
  · intro g
    by_cases c : s ≤ r
    · exact c
    · exact absurd (good_down h (by omega) (by omega) g) m2
  · intro c
    exact good_down h hs c m1
theorem IsM.uniq {cs : List Int} {d r s : Int} (h : ∀ c ∈ cs, 0 ≤ c) (m : IsM cs d r) (hs : 0 ≤ s) (g : good cs d s) (n : ¬ good cs d (s + 1)) : s = r := by
  have h1 := (m.iff h hs).mp g
  have h2 := mt (m.iff h (s := s + 1) (by omega)).mpr n
  omega
theorem Sm_mono_t {cs : List Int} {s t : Int} (ht : s ≤ t) : Sm cs s ≤ Sm cs t := by
  induction cs with
  | nil => exact Int.le_refl _
  | cons c cs ih =>
    rw [Sm_cons, Sm_cons]
    split <;> split <;> omega
/-- it grows less and less -/
theorem Sm_conc (cs : List Int) (t : Int) : Sm cs (t + 2) - Sm cs (t + 1) ≤ Sm cs (t + 1) - Sm cs t := by
  induction cs with
  | nil => simp [Sm_nil]
  | cons c cs ih =>
    rw [Sm_cons, Sm_cons, Sm_cons]
    split <;> split <;> split <;> omega
theorem Sm_mul {cs : List Int} {m : Int} (hm : 0 < m) (t : Int) : Sm (cs.map fun c => m * c) (m * t) = m * Sm cs t := by
  induction cs with
  | nil => simp [Sm_nil]
  | cons c cs ih =>
    rw [List.map_cons, Sm_cons, Sm_cons, ih, Int.mul_add]
    by_cases k : t < c
    · rw [if_pos k, if_pos (Int.mul_lt_mul_of_pos_left k hm)]
    · rw [if_neg k, if_neg (fun h => k (Int.lt_of_mul_lt_mul_left h (by omega)))]
/-- so many times the things -/
theorem IsM.times {cs : List Int} {d r g m : Int} (h : ∀ c ∈ cs, 0 ≤ c) (hm : 0 < m) (a : IsM cs d r) (b : IsM (cs.map fun c => m * c) d g) : m * r ≤ g ∧ g < m * (r + 1) := by
  have h' : ∀ c ∈ cs.map fun c => m * c, 0 ≤ c := fun c hc => by
    obtain ⟨x, hx, rfl⟩ := List.mem_map.mp hc
    exact Int.mul_nonneg (by omega) (h x hx)
  have e : ∀ t, good (cs.map fun c => m * c) d (m * t) ↔ good cs d t := fun t => by
    unfold good
    rw [Sm_mul hm]
    have e1 : d * (m * t) = m * (d * t) := by rw [← Int.mul_assoc, Int.mul_comm d m, Int.mul_assoc]
    rw [e1]
    exact ⟨fun h => Int.le_of_mul_le_mul_left h hm, fun h => Int.mul_le_mul_of_nonneg_left h (by omega)⟩
  constructor
  · exact (b.iff h' (Int.mul_nonneg (by omega) a.1)).mp ((e r).mpr a.2.1)
  · have := mt (b.iff h' (s := m * (r + 1)) (Int.mul_nonneg (by omega) (by have := a.1; omega))).mpr (mt (e (r + 1)).mp a.2.2)
    omega
/-- one thing more -/
theorem IsM.more {cs ds : List Int} {d r g : Int} (h : ∀ c ∈ cs, 0 ≤ c) (h' : ∀ c ∈ ds, 0 ≤ c) (k : ∀ t, 0 ≤ t → Sm cs t ≤ Sm ds t) (a : IsM cs d r) (b : IsM ds d g) : r ≤ g :=
  (b.iff h' a.1).mp (by have := a.2.1; have := k r a.1; unfold good at *; omega)
theorem IsM.one {cs ds : List Int} {d r g : Int} (h : ∀ c ∈ cs, 0 ≤ c) (h' : ∀ c ∈ ds, 0 ≤ c) (k : ∀ t, Sm cs t ≤ Sm ds t) (k2 : ∀ t, Sm ds t ≤ Sm cs t + 1) (a : IsM cs d r) (b : IsM ds d g) : g - r = 0 ∨ g - r = 1 := by
  have h1 := a.more h h' (fun t _ => k t) b
  have h2 : ¬ good ds d (r + 2) := fun hg => by
    have a1 := a.2.1
    have a2 := a.2.2
    have c := Sm_conc cs r
    have k3 := k2 (r + 2)
    unfold good at *
    rw [Int.mul_add] at hg
    rw [Int.mul_add] at a2
    omega
  have h3 := mt (b.iff h' (s := r + 2) (by have := a.1; omega)).mpr h2
  omega
theorem IsM.lower {cs : List Int} {d r g : Int} (h : ∀ c ∈ cs, 0 ≤ c) (a : IsM cs d r) (b : IsM cs (d + 1) g) : g ≤ r := by
  refine (a.iff h b.1).mp ?_
  have b1 := b.2.1
  have b0 := b.1
  unfold good at *
  rw [Int.add_mul] at b1
  omega
theorem Sm_le_len {cs : List Int} {t : Int} : Sm cs t ≤ cs.length * t := by
  induction cs with
  | nil => simp [Sm_nil]
  | cons c cs ih =>
    rw [Sm_cons, List.length_cons, Int.natCast_add, Int.add_mul]
    split <;> simp <;> omega
theorem IsM.none {cs : List Int} {d r : Int} (hd : cs.length < d) (a : IsM cs d r) : r = 0 := by
  obtain ⟨a0, a1, _⟩ := a
  unfold good at a1
  have := Sm_le_len (cs := cs) (t := r)
  by_cases c : r = 0
  · exact c
  · have h3 : (cs.length : Int) * r < d * r := Int.mul_lt_mul_of_pos_right hd (by omega)
    omega
theorem Sm_all {cs : List Int} {t : Int} (h : ∀ c ∈ cs, c ≤ t) : Sm cs t = cs.sum := by
  induction cs with
  | nil => rfl
  | cons c cs ih =>
    rw [Sm_cons, ih fun x hx => h x (by simp [hx]), List.sum_cons, if_neg (by have := h c (by simp); omega)]
theorem le_sum {cs : List Int} (h : ∀ c ∈ cs, 0 ≤ c) : ∀ c ∈ cs, c ≤ cs.sum := by
  induction cs with
  | nil => intro c hc; simp at hc
  | cons x cs ih =>
    intro c hc
    rw [List.sum_cons]
    have h2 := sum_nonneg (cs := cs) fun y hy => h y (by simp [hy])
    rcases List.mem_cons.mp hc with rfl | hc
    · omega
    · have := ih (fun y hy => h y (by simp [hy])) c hc
      have := h x (by simp)
      omega
theorem IsM.first {cs : List Int} {r : Int} (h : ∀ c ∈ cs, 0 ≤ c) (a : IsM cs 1 r) : r = cs.sum := by
  refine (a.uniq h (sum_nonneg h) ?_ ?_).symm
  · unfold good
    rw [Sm_all (le_sum h)]
    omega
  · unfold good
    have := Sm_le (cs := cs) (cs.sum + 1)
    omega
/-- some things come to no less than the lesser of all and t -/
theorem Sm_ge {cs : List Int} (h : ∀ c ∈ cs, 0 ≤ c) {t : Int} (ht : 0 ≤ t) : (if t < cs.sum then t else cs.sum) ≤ Sm cs t := by
  induction cs with
  | nil =>
    show (if t < 0 then t else 0) ≤ 0
    rw [if_neg (by omega)]
    exact Int.le_refl _
  | cons c cs ih =>
    have h0 := h c (by simp)
    have ih := ih fun x hx => h x (by simp [hx])
    have h2 := sum_nonneg (cs := cs) fun y hy => h y (by simp [hy])
    rw [Sm_cons, List.sum_cons]
    split <;> split <;> split at ih <;> omega
theorem Sm_pick {cs : List Int} {m : Int} (h : ∀ c ∈ cs, 0 ≤ c) (hm : m ∈ cs) {t : Int} (ht : 0 ≤ t) : (if t < m then t else m) + (if t < cs.sum - m then t else cs.sum - m) ≤ Sm cs t ∧ Sm cs t ≤ (if t < m then t else m) + (cs.sum - m) := by
  obtain ⟨a, b, rfl⟩ := List.append_of_mem hm
  have e : Sm (a ++ m :: b) t = (if t < m then t else m) + Sm (a ++ b) t := by rw [Sm_app, Sm_cons, Sm_app]; omega
  have e2 : (a ++ m :: b).sum = m + (a ++ b).sum := by rw [List.sum_append, List.sum_cons, List.sum_append]; omega
  have h' : ∀ c ∈ a ++ b, 0 ≤ c := fun c hc => h c (by
    rcases List.mem_append.mp hc with hc | hc
    · simp [hc]
    · simp [hc])
  have g1 := Sm_ge h' ht
  have g2 := Sm_le (cs := a ++ b) t
  rw [e, e2, show m + (a ++ b).sum - m = (a ++ b).sum by omega]
  omega
theorem IsM.second {cs : List Int} {r m : Int} (h : ∀ c ∈ cs, 0 ≤ c) (hm : m ∈ cs) (hx : ∀ c ∈ cs, c ≤ m) (a : IsM cs 2 r) : r = if cs.sum - m < cs.sum / 2 then cs.sum - m else cs.sum / 2 := by
  have key : ∀ t : Int, 0 ≤ t → (good cs 2 t ↔ 2 * t ≤ cs.sum ∧ t ≤ cs.sum - m) := fun t ht => by
    obtain ⟨p1, p2⟩ := Sm_pick h hm ht
    have p3 := Sm_le (cs := cs) t
    unfold good
    by_cases c : t < m
    · rw [if_pos c] at p1 p2
      constructor
      · intro g; omega
      · rintro ⟨g1, g2⟩
        split at p1 <;> omega
    · rw [Sm_all fun x hx' => by have := hx x hx'; omega]
      constructor
      · intro g
        rw [if_neg c] at p1 p2
        have hm0 := h m hm
        omega
      · rintro ⟨g1, g2⟩; exact g1
  have hs := sum_nonneg h
  have hm1 := le_sum h m hm
  have k1 := (key r a.1).mp a.2.1
  have k2 := mt (key (r + 1) (by have := a.1; omega)).mpr a.2.2
  split <;> omega
end Cm
set_option maxHeartbeats 0
namespace Cm
open PySem Br
def wt_most_bins_52e0_1 : Br.Tst := .e (.app .lt [.ref 2, .ref 3])
def bd_most_bins_52e0_1 : List Br.St := [.set 4 (.app .fdiv [.val (.app .add [.val (.app .add [.ref 2, .ref 3]), .val (.cst (.int 1))]), .val (.cst (.int 2))]), .ite (.e (.call 408 [.ref 0, .ref 1, .ref 4])) [.set 2 (.var 4)] [.set 3 (.app .sub [.ref 4, .val (.cst (.int 1))])]]
def ir_most_bins_52e0 : Fn := ⟨5, 2, [0, 1], [.set 2 (.cst (.int 0)), .set 3 (.app .fdiv [.val (.app .sum [.ref 0]), .ref 1]), .whl wt_most_bins_52e0_1 bd_most_bins_52e0_1, .retV 2]⟩
def ph_most_bins_52e0 : Nat → List LV → CR := fun j => match j with | 408 => g_are_enough_4dd2 | _ => fun _ => .st
def g_most_bins_52e0 : List LV → CR := runFn ph_most_bins_52e0 1000000 ir_most_bins_52e0
-- use: U_list U_most
theorem most_52e0 (cs : List Int) (d : Int) (hl : cs.length ≤ 1000000) (h1 : 0 < d) (h2 : d ≤ 12) (hc : ∀ c ∈ cs, 0 ≤ c) (hs : cs.sum < 2 ^ 300) :
    ∃ r : Int, 0 ≤ r ∧ d * r ≤ Sm cs r ∧ ¬ d * (r + 1) ≤ Sm cs (r + 1) ∧ g_most_bins_52e0 [.fro (.tup (cs.map .int)), .fro (.int d)] = .ok (.fro (.int r)) [.fro (.tup (cs.map .int)), .fro (.int d)] := by
  have hd : d.natAbs < 18446744073709551616 := by omega
  have hdl : d.natAbs.log2 < 9000 := log2_lt_9000 (by omega)
  have h0 := sum_nonneg hc
  (unfold g_most_bins_52e0 ir_most_bins_52e0; rw [runFn_eq _ _ _ _ ⟨rfl, by decide, rfl⟩])
  simp -implicitDefEqProofs [ioOk, Br.frameOf, lvsOf, Br.exSs_nil, Br.exSs_cons, SO.seq_nx, SO.seq_rt, SO.seq_ex, SO.seq_bk, SO.seq_ct, SO.seq_st, SO.fin_nx, SO.fin_rt, SO.fin_ex, Br.v_app, Br.v_mth, Br.v_tup, Br.v_lst, Br.v_cst, Br.v_dnew, Br.v_var, Br.v_call, Br.v_and, Br.v_or, Br.v_not, Br.v_ite, Br.v_chain, Br.v_sl2, Br.v_comp, Br.v_aref, Br.v_aval, Br.v_as0, Br.v_as, Br.v_es0, Br.v_es, Br.v_tand, Br.v_tor, Br.v_tnot, Br.v_te, Br.v_ts0, Br.v_ts1, Br.v_seq, Br.v_rng1, Br.v_rng2, Br.v_enum, Br.v_zip, Br.v_popE, Br.v_dispV, Br.l_dispV', Br.v_popL, Br.l_popE, Br.l_popL, Br.kPopE_eq, Br.putE_some, Br.putE_none, Br.v_rev, Br.l_app, Br.l_mth', Br.l_lst', Br.l_dnew', Br.l_call', Br.l_comp', Br.l_var, Br.l_cst, Br.l_tup, Br.l_and, Br.l_or, Br.l_not, Br.l_ite, Br.l_chain, Br.l_sl2, Br.x_set, Br.x_unp, Br.x_par, Br.x_setIx, Br.x_app, Br.x_ext, Br.x_popA, Br.x_insA, Br.kPopA, Br.kIns1, Br.kIns2, Br.x_ex, Br.x_ret, Br.x_retV, Br.x_retN, Br.x_if, Br.x_whl, Br.x_brk, Br.x_cont, Br.x_pass, Br.x_raise, Br.kOp, Br.kVal, Br.kCons, Br.kAs, Br.kConsE, Br.kEs, Br.kTup, Br.kLst, Br.kCall, Br.kMth2, Br.kMth, Br.kAnd, Br.kOr, Br.kNot, Br.kIte, Br.kCh4, Br.kCh3, Br.kCh2b, Br.kCh2, Br.kCh1, Br.kS3, Br.kS2, Br.kS1, Br.kC6, Br.kC5, Br.kC4, Br.kC3, Br.kC0, Br.kC2, Br.kC1, Br.kTand, Br.kTor, Br.kTnot, Br.kTe, Br.kSeq, Br.kR1, Br.kR3, Br.kR2, Br.kEn, Br.kZ2, Br.kZ1, Br.kRv, Br.kOwn, Br.kFro, Br.kOwnV, Br.kCallL, Br.kSet, Br.kUnp, Br.kPar, Br.kSI2, Br.kSI1, Br.kApp, Br.kExt, Br.kEx, Br.kRet, Br.kIf, Br.kFor, Br.ifE_t, Br.ifE_f, Br.ifS_t, Br.ifS_f, Br.okE_eq, Br.cF, Br.x_for, ne_eq, reduceCtorEq, not_false_eq_true, implies_true, ER.bind_ok, ER.bind_ex, ER.bind_st, ER.so_ok, ER.so_ex, ER.so_st, ER.of_some, ER.of_none, SO.of_some, SO.of_none, Br.bindS_k, Br.bindK_some, Br.bindK_none, Tg.bind, Tg.binds, at', setIxP, AV.pvs, AV.pv, AV.lvs, AV.lv, AV.refs, AV.back, maskL, LV.isFro, LV.pv, Br.callE_k, Br.callK0_some, Br.callK_ok, Br.callK_ex, froE, Br.opX_add, Br.opX_sub, Br.opX_mul, Br.opX_fdiv, Br.opX_mod, Br.opX_pow, Br.opX_neg, Br.opX_eq, Br.opX_ne, Br.opX_lt, Br.opX_le, Br.opX_gt, Br.opX_ge, Br.opX_isN, Br.opX_isNN, Br.opX_inn, Br.opX_nin, Br.opX_len, Br.opX_sum, Br.opX_abs, Br.opX_int1, Br.opX_str1, Br.opX_tuple1, Br.opX_list1, Br.opX_sorted, Br.opX_allL, Br.opX_anyL, Br.opX_min2, Br.opX_max2, Br.opX_minL, Br.opX_maxL, Br.opX_idx, Br.opX_rev, Br.opX_dget, Br.opX_values, Br.opX_dmod, Br.opX_lcnt, Br.opX_tcnt, Br.opX_lidx, Br.opX_bits, Br.opX_sortedD, Br.opX_minD, Br.opX_maxD, Br.opX_isB, Br.opX_isNB, Br.opX_isTy, Br.opX_slc, Br.opX_isEx, Br.opX_dict1, Br.opX_tupleX, Br.dn_non, Br.dn_bl, Br.dn_int, Br.dn_str, Br.dn_ty, Br.dn_exc, Br.dn_tup, Br.dn_xt, Br.dn_lst, Br.dn_dK, Br.dn_dT, Br.dn_dn, Br.isD_dn, Br.eqP_dnl, Br.eqP_dnr, tupleXP, opSem, addP, subP, mulP, fdivP, modP, powP, negP, eqOP, neOP, ltOP, leOP, gtOP, geOP, isNP, isNNP, isBP, isNBP, PV.isNon, lenP, sumP, absP, int1P, str1P, tuple1P, list1P, min2P, max2P, idxP, slcP, slcPart, dmodP, isTyOP, isTys, isTyP, tyName, ownV, Op.new, wipeE, Br.backE_nil, Br.backE_cons, Br.froO_f, Br.froO_n, Br.froO_0, Br.froO_o, seqOf, parE, ownL, keyP, recvOk, PV.isD, PV.isT, Br.eqP_ii, Br.eqP_ss, Br.eqP_bb, Br.eqP_nn, Br.eqP_tt, Br.eqP_ll, Br.eqPs_00, Br.eqPs_0c, Br.eqPs_c0, Br.eqPs_cc, Br.eqPs_ints, Br.eqP_xl, Br.eqP_xr, Br.eqP_ni, Br.eqP_ns, Br.eqP_nt, Br.eqP_nl, Br.eqP_nb, Br.eqP_in, Br.eqP_is, Br.eqP_it, Br.eqP_il, Br.eqP_sn, Br.eqP_si, Br.eqP_st, Br.eqP_sl, Br.eqP_sb, Br.eqP_tn, Br.eqP_ti, Br.eqP_ts, Br.eqP_tl, Br.eqP_tb, Br.eqP_ln, Br.eqP_li, Br.eqP_ls, Br.eqP_lt, Br.eqP_lb, Br.eqP_bn, Br.eqP_bs, Br.eqP_bt, Br.eqP_bl, intsOf, List.getElem?_cons_zero, List.getElem?_cons_succ, List.getElem?_nil, List.set_cons_zero, List.set_cons_succ, List.map_cons, List.map_nil, List.cons_append, List.nil_append, List.length_cons, List.length_nil, List.replicate_succ, List.replicate_zero, List.append_nil, Option.bind_some, Option.bind_none, Option.map_some, Option.map_none, if_true, if_false, ite_true, ite_false, decide_true, decide_false, Bool.and_true, Bool.true_and, Bool.not_true, Bool.not_false, reduceIte, Option.isSome_some, Br.kit_NoneType_int, Br.kit_NoneType_bool, Br.kit_NoneType_str, Br.kit_NoneType_tuple, Br.kit_NoneType_list, Br.kit_NoneType_dict, Br.kit_bool_int, Br.kit_bool_bool, Br.kit_bool_str, Br.kit_bool_tuple, Br.kit_bool_list, Br.kit_bool_dict, Br.kit_int_int, Br.kit_int_bool, Br.kit_int_str, Br.kit_int_tuple, Br.kit_int_list, Br.kit_int_dict, Br.kit_str_int, Br.kit_str_bool, Br.kit_str_str, Br.kit_str_tuple, Br.kit_str_list, Br.kit_str_dict, Br.kit_tuple_int, Br.kit_tuple_bool, Br.kit_tuple_str, Br.kit_tuple_tuple, Br.kit_tuple_list, Br.kit_tuple_dict, Br.kit_list_int, Br.kit_list_bool, Br.kit_list_str, Br.kit_list_tuple, Br.kit_list_list, Br.kit_list_dict, Br.kit_dict_int, Br.kit_dict_bool, Br.kit_dict_str, Br.kit_dict_tuple, Br.kit_dict_list, Br.kit_dict_dict, L2.ixN, Br.rng_ok, Br.mul_ok_r, Br.mul_ok_l, LIM, Br.PV.i_int, Br.log2_lt_9000, Br.atI_0, Br.atI_1, Br.atI_2, lcntP, lidxP, bitsP, revP, cntP, sortedDP, minDP, maxDP, sortX, Br.x_try, Br.tryK_nx, Br.tryK_rt, Br.tryK_bk, Br.tryK_ct, Br.suiteX_nx, Br.suiteX_bk, Br.suiteX_ct, Br.suiteX_rt, Br.setX_some, Br.setX_none, Br.goneX_some, Br.goneX_none, Br.x_lock, Br.kLock_d, Br.lockR_nx, Br.lockR_rt, Br.l_callT', Br.v_callT, Br.kT1, Br.kT2, Br.kT3, Br.kT4_eq, Br.dropT_ok, Br.dropT_ex, Br.dropT_st, Br.sh_val, Br.sh_ref, Br.kXt, Br.v_xtup, Br.l_xtup, Br.lockV_s, Br.thin_0, Br.thin_c, Br.thinO_n, Br.thinO_s, Br.thinL_f, Br.thinL_l, Br.thinL_d, Br.thinL_t, Br.noD_n, Br.noD_b, Br.noD_i, Br.noD_s, Br.noD_e, Br.noD_t, Br.noD_x, Br.noD_l, Br.noD_d, Br.noDs_0, Br.noDs_c, Br.noDs_i, h1, hdl]
  have key := whlL_post (c := evT ph_most_bins_52e0 wt_most_bins_52e0_1) (f := exSs ph_most_bins_52e0 1000000 bd_most_bins_52e0_1)
    (fun m ρ => ∃ low high l4, ρ = [some (.fro (.tup (cs.map .int))), some (.fro (.int d)), some (.fro (.int low)), some (.fro (.int high)), l4] ∧ 0 ≤ low ∧ low ≤ high ∧ high - low < 2 ^ m ∧ d * low ≤ Sm cs low ∧ ¬ d * (high + 1) ≤ Sm cs (high + 1))
    (fun r => ∃ low l4, r = .nx [some (.fro (.tup (cs.map .int))), some (.fro (.int d)), some (.fro (.int low)), some (.fro (.int low)), l4] ∧ 0 ≤ low ∧ d * low ≤ Sm cs low ∧ ¬ d * (low + 1) ≤ Sm cs (low + 1))
    (fun m ρ hi => by
      obtain ⟨low, high, l4, rfl, q1, q2, q3, q4, q5⟩ := hi
      by_cases hlt : low < high
      · refine .inr ⟨_, (by (conv => lhs; simp -implicitDefEqProofs [ioOk, Br.frameOf, lvsOf, Br.exSs_nil, Br.exSs_cons, SO.seq_nx, SO.seq_rt, SO.seq_ex, SO.seq_bk, SO.seq_ct, SO.seq_st, SO.fin_nx, SO.fin_rt, SO.fin_ex, Br.v_app, Br.v_mth, Br.v_tup, Br.v_lst, Br.v_cst, Br.v_dnew, Br.v_var, Br.v_call, Br.v_and, Br.v_or, Br.v_not, Br.v_ite, Br.v_chain, Br.v_sl2, Br.v_comp, Br.v_aref, Br.v_aval, Br.v_as0, Br.v_as, Br.v_es0, Br.v_es, Br.v_tand, Br.v_tor, Br.v_tnot, Br.v_te, Br.v_ts0, Br.v_ts1, Br.v_seq, Br.v_rng1, Br.v_rng2, Br.v_enum, Br.v_zip, Br.v_popE, Br.v_dispV, Br.l_dispV', Br.v_popL, Br.l_popE, Br.l_popL, Br.kPopE_eq, Br.putE_some, Br.putE_none, Br.v_rev, Br.l_app, Br.l_mth', Br.l_lst', Br.l_dnew', Br.l_call', Br.l_comp', Br.l_var, Br.l_cst, Br.l_tup, Br.l_and, Br.l_or, Br.l_not, Br.l_ite, Br.l_chain, Br.l_sl2, Br.x_set, Br.x_unp, Br.x_par, Br.x_setIx, Br.x_app, Br.x_ext, Br.x_popA, Br.x_insA, Br.kPopA, Br.kIns1, Br.kIns2, Br.x_ex, Br.x_ret, Br.x_retV, Br.x_retN, Br.x_if, Br.x_whl, Br.x_brk, Br.x_cont, Br.x_pass, Br.x_raise, Br.kOp, Br.kVal, Br.kCons, Br.kAs, Br.kConsE, Br.kEs, Br.kTup, Br.kLst, Br.kCall, Br.kMth2, Br.kMth, Br.kAnd, Br.kOr, Br.kNot, Br.kIte, Br.kCh4, Br.kCh3, Br.kCh2b, Br.kCh2, Br.kCh1, Br.kS3, Br.kS2, Br.kS1, Br.kC6, Br.kC5, Br.kC4, Br.kC3, Br.kC0, Br.kC2, Br.kC1, Br.kTand, Br.kTor, Br.kTnot, Br.kTe, Br.kSeq, Br.kR1, Br.kR3, Br.kR2, Br.kEn, Br.kZ2, Br.kZ1, Br.kRv, Br.kOwn, Br.kFro, Br.kOwnV, Br.kCallL, Br.kSet, Br.kUnp, Br.kPar, Br.kSI2, Br.kSI1, Br.kApp, Br.kExt, Br.kEx, Br.kRet, Br.kIf, Br.kFor, Br.ifE_t, Br.ifE_f, Br.ifS_t, Br.ifS_f, Br.okE_eq, Br.cF, Br.x_for, ne_eq, reduceCtorEq, not_false_eq_true, implies_true, ER.bind_ok, ER.bind_ex, ER.bind_st, ER.so_ok, ER.so_ex, ER.so_st, ER.of_some, ER.of_none, SO.of_some, SO.of_none, Br.bindS_k, Br.bindK_some, Br.bindK_none, Tg.bind, Tg.binds, at', setIxP, AV.pvs, AV.pv, AV.lvs, AV.lv, AV.refs, AV.back, maskL, LV.isFro, LV.pv, Br.callE_k, Br.callK0_some, Br.callK_ok, Br.callK_ex, froE, Br.opX_add, Br.opX_sub, Br.opX_mul, Br.opX_fdiv, Br.opX_mod, Br.opX_pow, Br.opX_neg, Br.opX_eq, Br.opX_ne, Br.opX_lt, Br.opX_le, Br.opX_gt, Br.opX_ge, Br.opX_isN, Br.opX_isNN, Br.opX_inn, Br.opX_nin, Br.opX_len, Br.opX_sum, Br.opX_abs, Br.opX_int1, Br.opX_str1, Br.opX_tuple1, Br.opX_list1, Br.opX_sorted, Br.opX_allL, Br.opX_anyL, Br.opX_min2, Br.opX_max2, Br.opX_minL, Br.opX_maxL, Br.opX_idx, Br.opX_rev, Br.opX_dget, Br.opX_values, Br.opX_dmod, Br.opX_lcnt, Br.opX_tcnt, Br.opX_lidx, Br.opX_bits, Br.opX_sortedD, Br.opX_minD, Br.opX_maxD, Br.opX_isB, Br.opX_isNB, Br.opX_isTy, Br.opX_slc, Br.opX_isEx, Br.opX_dict1, Br.opX_tupleX, Br.dn_non, Br.dn_bl, Br.dn_int, Br.dn_str, Br.dn_ty, Br.dn_exc, Br.dn_tup, Br.dn_xt, Br.dn_lst, Br.dn_dK, Br.dn_dT, Br.dn_dn, Br.isD_dn, Br.eqP_dnl, Br.eqP_dnr, tupleXP, opSem, addP, subP, mulP, fdivP, modP, powP, negP, eqOP, neOP, ltOP, leOP, gtOP, geOP, isNP, isNNP, isBP, isNBP, PV.isNon, lenP, sumP, absP, int1P, str1P, tuple1P, list1P, min2P, max2P, idxP, slcP, slcPart, dmodP, isTyOP, isTys, isTyP, tyName, ownV, Op.new, wipeE, Br.backE_nil, Br.backE_cons, Br.froO_f, Br.froO_n, Br.froO_0, Br.froO_o, seqOf, parE, ownL, keyP, recvOk, PV.isD, PV.isT, Br.eqP_ii, Br.eqP_ss, Br.eqP_bb, Br.eqP_nn, Br.eqP_tt, Br.eqP_ll, Br.eqPs_00, Br.eqPs_0c, Br.eqPs_c0, Br.eqPs_cc, Br.eqPs_ints, Br.eqP_xl, Br.eqP_xr, Br.eqP_ni, Br.eqP_ns, Br.eqP_nt, Br.eqP_nl, Br.eqP_nb, Br.eqP_in, Br.eqP_is, Br.eqP_it, Br.eqP_il, Br.eqP_sn, Br.eqP_si, Br.eqP_st, Br.eqP_sl, Br.eqP_sb, Br.eqP_tn, Br.eqP_ti, Br.eqP_ts, Br.eqP_tl, Br.eqP_tb, Br.eqP_ln, Br.eqP_li, Br.eqP_ls, Br.eqP_lt, Br.eqP_lb, Br.eqP_bn, Br.eqP_bs, Br.eqP_bt, Br.eqP_bl, intsOf, List.getElem?_cons_zero, List.getElem?_cons_succ, List.getElem?_nil, List.set_cons_zero, List.set_cons_succ, List.map_cons, List.map_nil, List.cons_append, List.nil_append, List.length_cons, List.length_nil, List.replicate_succ, List.replicate_zero, List.append_nil, Option.bind_some, Option.bind_none, Option.map_some, Option.map_none, if_true, if_false, ite_true, ite_false, decide_true, decide_false, Bool.and_true, Bool.true_and, Bool.not_true, Bool.not_false, reduceIte, Option.isSome_some, Br.kit_NoneType_int, Br.kit_NoneType_bool, Br.kit_NoneType_str, Br.kit_NoneType_tuple, Br.kit_NoneType_list, Br.kit_NoneType_dict, Br.kit_bool_int, Br.kit_bool_bool, Br.kit_bool_str, Br.kit_bool_tuple, Br.kit_bool_list, Br.kit_bool_dict, Br.kit_int_int, Br.kit_int_bool, Br.kit_int_str, Br.kit_int_tuple, Br.kit_int_list, Br.kit_int_dict, Br.kit_str_int, Br.kit_str_bool, Br.kit_str_str, Br.kit_str_tuple, Br.kit_str_list, Br.kit_str_dict, Br.kit_tuple_int, Br.kit_tuple_bool, Br.kit_tuple_str, Br.kit_tuple_tuple, Br.kit_tuple_list, Br.kit_tuple_dict, Br.kit_list_int, Br.kit_list_bool, Br.kit_list_str, Br.kit_list_tuple, Br.kit_list_list, Br.kit_list_dict, Br.kit_dict_int, Br.kit_dict_bool, Br.kit_dict_str, Br.kit_dict_tuple, Br.kit_dict_list, Br.kit_dict_dict, L2.ixN, Br.rng_ok, Br.mul_ok_r, Br.mul_ok_l, LIM, Br.PV.i_int, Br.log2_lt_9000, Br.atI_0, Br.atI_1, Br.atI_2, lcntP, lidxP, bitsP, revP, cntP, sortedDP, minDP, maxDP, sortX, Br.x_try, Br.tryK_nx, Br.tryK_rt, Br.tryK_bk, Br.tryK_ct, Br.suiteX_nx, Br.suiteX_bk, Br.suiteX_ct, Br.suiteX_rt, Br.setX_some, Br.setX_none, Br.goneX_some, Br.goneX_none, Br.x_lock, Br.kLock_d, Br.lockR_nx, Br.lockR_rt, Br.l_callT', Br.v_callT, Br.kT1, Br.kT2, Br.kT3, Br.kT4_eq, Br.dropT_ok, Br.dropT_ex, Br.dropT_st, Br.sh_val, Br.sh_ref, Br.kXt, Br.v_xtup, Br.l_xtup, Br.lockV_s, Br.thin_0, Br.thin_c, Br.thinO_n, Br.thinO_s, Br.thinL_f, Br.thinL_l, Br.thinL_d, Br.thinL_t, Br.noD_n, Br.noD_b, Br.noD_i, Br.noD_s, Br.noD_e, Br.noD_t, Br.noD_x, Br.noD_l, Br.noD_d, Br.noDs_0, Br.noDs_c, Br.noDs_i, wt_most_bins_52e0_1, hlt]); all_goals rfl), .inl ?_⟩
        have hm : 0 < m := by
          cases m with
          | zero => simp at q3; omega
          | succ m => omega
        obtain ⟨m, rfl⟩ : ∃ k, m = k + 1 := ⟨m - 1, by omega⟩
        have e2 : (2 : Int) ^ (m + 1) = 2 * 2 ^ m := by rw [Int.pow_succ]; omega
        by_cases hp : d * ((low + high + 1) / 2) ≤ Sm cs ((low + high + 1) / 2)
        · have hp' : d * ((low + high + 1) / 2) ≤ (cs.map fun c => if (low + high + 1) / 2 < c then (low + high + 1) / 2 else c).sum := hp
          refine ⟨_, m, .inl (by (conv => lhs; simp -implicitDefEqProofs [ioOk, Br.frameOf, lvsOf, Br.exSs_nil, Br.exSs_cons, SO.seq_nx, SO.seq_rt, SO.seq_ex, SO.seq_bk, SO.seq_ct, SO.seq_st, SO.fin_nx, SO.fin_rt, SO.fin_ex, Br.v_app, Br.v_mth, Br.v_tup, Br.v_lst, Br.v_cst, Br.v_dnew, Br.v_var, Br.v_call, Br.v_and, Br.v_or, Br.v_not, Br.v_ite, Br.v_chain, Br.v_sl2, Br.v_comp, Br.v_aref, Br.v_aval, Br.v_as0, Br.v_as, Br.v_es0, Br.v_es, Br.v_tand, Br.v_tor, Br.v_tnot, Br.v_te, Br.v_ts0, Br.v_ts1, Br.v_seq, Br.v_rng1, Br.v_rng2, Br.v_enum, Br.v_zip, Br.v_popE, Br.v_dispV, Br.l_dispV', Br.v_popL, Br.l_popE, Br.l_popL, Br.kPopE_eq, Br.putE_some, Br.putE_none, Br.v_rev, Br.l_app, Br.l_mth', Br.l_lst', Br.l_dnew', Br.l_call', Br.l_comp', Br.l_var, Br.l_cst, Br.l_tup, Br.l_and, Br.l_or, Br.l_not, Br.l_ite, Br.l_chain, Br.l_sl2, Br.x_set, Br.x_unp, Br.x_par, Br.x_setIx, Br.x_app, Br.x_ext, Br.x_popA, Br.x_insA, Br.kPopA, Br.kIns1, Br.kIns2, Br.x_ex, Br.x_ret, Br.x_retV, Br.x_retN, Br.x_if, Br.x_whl, Br.x_brk, Br.x_cont, Br.x_pass, Br.x_raise, Br.kOp, Br.kVal, Br.kCons, Br.kAs, Br.kConsE, Br.kEs, Br.kTup, Br.kLst, Br.kCall, Br.kMth2, Br.kMth, Br.kAnd, Br.kOr, Br.kNot, Br.kIte, Br.kCh4, Br.kCh3, Br.kCh2b, Br.kCh2, Br.kCh1, Br.kS3, Br.kS2, Br.kS1, Br.kC6, Br.kC5, Br.kC4, Br.kC3, Br.kC0, Br.kC2, Br.kC1, Br.kTand, Br.kTor, Br.kTnot, Br.kTe, Br.kSeq, Br.kR1, Br.kR3, Br.kR2, Br.kEn, Br.kZ2, Br.kZ1, Br.kRv, Br.kOwn, Br.kFro, Br.kOwnV, Br.kCallL, Br.kSet, Br.kUnp, Br.kPar, Br.kSI2, Br.kSI1, Br.kApp, Br.kExt, Br.kEx, Br.kRet, Br.kIf, Br.kFor, Br.ifE_t, Br.ifE_f, Br.ifS_t, Br.ifS_f, Br.okE_eq, Br.cF, Br.x_for, ne_eq, reduceCtorEq, not_false_eq_true, implies_true, ER.bind_ok, ER.bind_ex, ER.bind_st, ER.so_ok, ER.so_ex, ER.so_st, ER.of_some, ER.of_none, SO.of_some, SO.of_none, Br.bindS_k, Br.bindK_some, Br.bindK_none, Tg.bind, Tg.binds, at', setIxP, AV.pvs, AV.pv, AV.lvs, AV.lv, AV.refs, AV.back, maskL, LV.isFro, LV.pv, Br.callE_k, Br.callK0_some, Br.callK_ok, Br.callK_ex, froE, Br.opX_add, Br.opX_sub, Br.opX_mul, Br.opX_fdiv, Br.opX_mod, Br.opX_pow, Br.opX_neg, Br.opX_eq, Br.opX_ne, Br.opX_lt, Br.opX_le, Br.opX_gt, Br.opX_ge, Br.opX_isN, Br.opX_isNN, Br.opX_inn, Br.opX_nin, Br.opX_len, Br.opX_sum, Br.opX_abs, Br.opX_int1, Br.opX_str1, Br.opX_tuple1, Br.opX_list1, Br.opX_sorted, Br.opX_allL, Br.opX_anyL, Br.opX_min2, Br.opX_max2, Br.opX_minL, Br.opX_maxL, Br.opX_idx, Br.opX_rev, Br.opX_dget, Br.opX_values, Br.opX_dmod, Br.opX_lcnt, Br.opX_tcnt, Br.opX_lidx, Br.opX_bits, Br.opX_sortedD, Br.opX_minD, Br.opX_maxD, Br.opX_isB, Br.opX_isNB, Br.opX_isTy, Br.opX_slc, Br.opX_isEx, Br.opX_dict1, Br.opX_tupleX, Br.dn_non, Br.dn_bl, Br.dn_int, Br.dn_str, Br.dn_ty, Br.dn_exc, Br.dn_tup, Br.dn_xt, Br.dn_lst, Br.dn_dK, Br.dn_dT, Br.dn_dn, Br.isD_dn, Br.eqP_dnl, Br.eqP_dnr, tupleXP, opSem, addP, subP, mulP, fdivP, modP, powP, negP, eqOP, neOP, ltOP, leOP, gtOP, geOP, isNP, isNNP, isBP, isNBP, PV.isNon, lenP, sumP, absP, int1P, str1P, tuple1P, list1P, min2P, max2P, idxP, slcP, slcPart, dmodP, isTyOP, isTys, isTyP, tyName, ownV, Op.new, wipeE, Br.backE_nil, Br.backE_cons, Br.froO_f, Br.froO_n, Br.froO_0, Br.froO_o, seqOf, parE, ownL, keyP, recvOk, PV.isD, PV.isT, Br.eqP_ii, Br.eqP_ss, Br.eqP_bb, Br.eqP_nn, Br.eqP_tt, Br.eqP_ll, Br.eqPs_00, Br.eqPs_0c, Br.eqPs_c0, Br.eqPs_cc, Br.eqPs_ints, Br.eqP_xl, Br.eqP_xr, Br.eqP_ni, Br.eqP_ns, Br.eqP_nt, Br.eqP_nl, Br.eqP_nb, Br.eqP_in, Br.eqP_is, Br.eqP_it, Br.eqP_il, Br.eqP_sn, Br.eqP_si, Br.eqP_st, Br.eqP_sl, Br.eqP_sb, Br.eqP_tn, Br.eqP_ti, Br.eqP_ts, Br.eqP_tl, Br.eqP_tb, Br.eqP_ln, Br.eqP_li, Br.eqP_ls, Br.eqP_lt, Br.eqP_lb, Br.eqP_bn, Br.eqP_bs, Br.eqP_bt, Br.eqP_bl, intsOf, List.getElem?_cons_zero, List.getElem?_cons_succ, List.getElem?_nil, List.set_cons_zero, List.set_cons_succ, List.map_cons, List.map_nil, List.cons_append, List.nil_append, List.length_cons, List.length_nil, List.replicate_succ, List.replicate_zero, List.append_nil, Option.bind_some, Option.bind_none, Option.map_some, Option.map_none, if_true, if_false, ite_true, ite_false, decide_true, decide_false, Bool.and_true, Bool.true_and, Bool.not_true, Bool.not_false, reduceIte, Option.isSome_some, Br.kit_NoneType_int, Br.kit_NoneType_bool, Br.kit_NoneType_str, Br.kit_NoneType_tuple, Br.kit_NoneType_list, Br.kit_NoneType_dict, Br.kit_bool_int, Br.kit_bool_bool, Br.kit_bool_str, Br.kit_bool_tuple, Br.kit_bool_list, Br.kit_bool_dict, Br.kit_int_int, Br.kit_int_bool, Br.kit_int_str, Br.kit_int_tuple, Br.kit_int_list, Br.kit_int_dict, Br.kit_str_int, Br.kit_str_bool, Br.kit_str_str, Br.kit_str_tuple, Br.kit_str_list, Br.kit_str_dict, Br.kit_tuple_int, Br.kit_tuple_bool, Br.kit_tuple_str, Br.kit_tuple_tuple, Br.kit_tuple_list, Br.kit_tuple_dict, Br.kit_list_int, Br.kit_list_bool, Br.kit_list_str, Br.kit_list_tuple, Br.kit_list_list, Br.kit_list_dict, Br.kit_dict_int, Br.kit_dict_bool, Br.kit_dict_str, Br.kit_dict_tuple, Br.kit_dict_list, Br.kit_dict_dict, L2.ixN, Br.rng_ok, Br.mul_ok_r, Br.mul_ok_l, LIM, Br.PV.i_int, Br.log2_lt_9000, Br.atI_0, Br.atI_1, Br.atI_2, lcntP, lidxP, bitsP, revP, cntP, sortedDP, minDP, maxDP, sortX, Br.x_try, Br.tryK_nx, Br.tryK_rt, Br.tryK_bk, Br.tryK_ct, Br.suiteX_nx, Br.suiteX_bk, Br.suiteX_ct, Br.suiteX_rt, Br.setX_some, Br.setX_none, Br.goneX_some, Br.goneX_none, Br.x_lock, Br.kLock_d, Br.lockR_nx, Br.lockR_rt, Br.l_callT', Br.v_callT, Br.kT1, Br.kT2, Br.kT3, Br.kT4_eq, Br.dropT_ok, Br.dropT_ex, Br.dropT_st, Br.sh_val, Br.sh_ref, Br.kXt, Br.v_xtup, Br.l_xtup, Br.lockV_s, Br.thin_0, Br.thin_c, Br.thinO_n, Br.thinO_s, Br.thinL_f, Br.thinL_l, Br.thinL_d, Br.thinL_t, Br.noD_n, Br.noD_b, Br.noD_i, Br.noD_s, Br.noD_e, Br.noD_t, Br.noD_x, Br.noD_l, Br.noD_d, Br.noDs_0, Br.noDs_c, Br.noDs_i, bd_most_bins_52e0_1, ph_most_bins_52e0, enough_4dd2 cs d _ hl hd, hp']); all_goals rfl), by omega, _, _, _, rfl, by omega, by omega, by omega, hp, q5⟩
        · have hp' : ¬ d * ((low + high + 1) / 2) ≤ (cs.map fun c => if (low + high + 1) / 2 < c then (low + high + 1) / 2 else c).sum := hp
          refine ⟨_, m, .inl (by (conv => lhs; simp -implicitDefEqProofs [ioOk, Br.frameOf, lvsOf, Br.exSs_nil, Br.exSs_cons, SO.seq_nx, SO.seq_rt, SO.seq_ex, SO.seq_bk, SO.seq_ct, SO.seq_st, SO.fin_nx, SO.fin_rt, SO.fin_ex, Br.v_app, Br.v_mth, Br.v_tup, Br.v_lst, Br.v_cst, Br.v_dnew, Br.v_var, Br.v_call, Br.v_and, Br.v_or, Br.v_not, Br.v_ite, Br.v_chain, Br.v_sl2, Br.v_comp, Br.v_aref, Br.v_aval, Br.v_as0, Br.v_as, Br.v_es0, Br.v_es, Br.v_tand, Br.v_tor, Br.v_tnot, Br.v_te, Br.v_ts0, Br.v_ts1, Br.v_seq, Br.v_rng1, Br.v_rng2, Br.v_enum, Br.v_zip, Br.v_popE, Br.v_dispV, Br.l_dispV', Br.v_popL, Br.l_popE, Br.l_popL, Br.kPopE_eq, Br.putE_some, Br.putE_none, Br.v_rev, Br.l_app, Br.l_mth', Br.l_lst', Br.l_dnew', Br.l_call', Br.l_comp', Br.l_var, Br.l_cst, Br.l_tup, Br.l_and, Br.l_or, Br.l_not, Br.l_ite, Br.l_chain, Br.l_sl2, Br.x_set, Br.x_unp, Br.x_par, Br.x_setIx, Br.x_app, Br.x_ext, Br.x_popA, Br.x_insA, Br.kPopA, Br.kIns1, Br.kIns2, Br.x_ex, Br.x_ret, Br.x_retV, Br.x_retN, Br.x_if, Br.x_whl, Br.x_brk, Br.x_cont, Br.x_pass, Br.x_raise, Br.kOp, Br.kVal, Br.kCons, Br.kAs, Br.kConsE, Br.kEs, Br.kTup, Br.kLst, Br.kCall, Br.kMth2, Br.kMth, Br.kAnd, Br.kOr, Br.kNot, Br.kIte, Br.kCh4, Br.kCh3, Br.kCh2b, Br.kCh2, Br.kCh1, Br.kS3, Br.kS2, Br.kS1, Br.kC6, Br.kC5, Br.kC4, Br.kC3, Br.kC0, Br.kC2, Br.kC1, Br.kTand, Br.kTor, Br.kTnot, Br.kTe, Br.kSeq, Br.kR1, Br.kR3, Br.kR2, Br.kEn, Br.kZ2, Br.kZ1, Br.kRv, Br.kOwn, Br.kFro, Br.kOwnV, Br.kCallL, Br.kSet, Br.kUnp, Br.kPar, Br.kSI2, Br.kSI1, Br.kApp, Br.kExt, Br.kEx, Br.kRet, Br.kIf, Br.kFor, Br.ifE_t, Br.ifE_f, Br.ifS_t, Br.ifS_f, Br.okE_eq, Br.cF, Br.x_for, ne_eq, reduceCtorEq, not_false_eq_true, implies_true, ER.bind_ok, ER.bind_ex, ER.bind_st, ER.so_ok, ER.so_ex, ER.so_st, ER.of_some, ER.of_none, SO.of_some, SO.of_none, Br.bindS_k, Br.bindK_some, Br.bindK_none, Tg.bind, Tg.binds, at', setIxP, AV.pvs, AV.pv, AV.lvs, AV.lv, AV.refs, AV.back, maskL, LV.isFro, LV.pv, Br.callE_k, Br.callK0_some, Br.callK_ok, Br.callK_ex, froE, Br.opX_add, Br.opX_sub, Br.opX_mul, Br.opX_fdiv, Br.opX_mod, Br.opX_pow, Br.opX_neg, Br.opX_eq, Br.opX_ne, Br.opX_lt, Br.opX_le, Br.opX_gt, Br.opX_ge, Br.opX_isN, Br.opX_isNN, Br.opX_inn, Br.opX_nin, Br.opX_len, Br.opX_sum, Br.opX_abs, Br.opX_int1, Br.opX_str1, Br.opX_tuple1, Br.opX_list1, Br.opX_sorted, Br.opX_allL, Br.opX_anyL, Br.opX_min2, Br.opX_max2, Br.opX_minL, Br.opX_maxL, Br.opX_idx, Br.opX_rev, Br.opX_dget, Br.opX_values, Br.opX_dmod, Br.opX_lcnt, Br.opX_tcnt, Br.opX_lidx, Br.opX_bits, Br.opX_sortedD, Br.opX_minD, Br.opX_maxD, Br.opX_isB, Br.opX_isNB, Br.opX_isTy, Br.opX_slc, Br.opX_isEx, Br.opX_dict1, Br.opX_tupleX, Br.dn_non, Br.dn_bl, Br.dn_int, Br.dn_str, Br.dn_ty, Br.dn_exc, Br.dn_tup, Br.dn_xt, Br.dn_lst, Br.dn_dK, Br.dn_dT, Br.dn_dn, Br.isD_dn, Br.eqP_dnl, Br.eqP_dnr, tupleXP, opSem, addP, subP, mulP, fdivP, modP, powP, negP, eqOP, neOP, ltOP, leOP, gtOP, geOP, isNP, isNNP, isBP, isNBP, PV.isNon, lenP, sumP, absP, int1P, str1P, tuple1P, list1P, min2P, max2P, idxP, slcP, slcPart, dmodP, isTyOP, isTys, isTyP, tyName, ownV, Op.new, wipeE, Br.backE_nil, Br.backE_cons, Br.froO_f, Br.froO_n, Br.froO_0, Br.froO_o, seqOf, parE, ownL, keyP, recvOk, PV.isD, PV.isT, Br.eqP_ii, Br.eqP_ss, Br.eqP_bb, Br.eqP_nn, Br.eqP_tt, Br.eqP_ll, Br.eqPs_00, Br.eqPs_0c, Br.eqPs_c0, Br.eqPs_cc, Br.eqPs_ints, Br.eqP_xl, Br.eqP_xr, Br.eqP_ni, Br.eqP_ns, Br.eqP_nt, Br.eqP_nl, Br.eqP_nb, Br.eqP_in, Br.eqP_is, Br.eqP_it, Br.eqP_il, Br.eqP_sn, Br.eqP_si, Br.eqP_st, Br.eqP_sl, Br.eqP_sb, Br.eqP_tn, Br.eqP_ti, Br.eqP_ts, Br.eqP_tl, Br.eqP_tb, Br.eqP_ln, Br.eqP_li, Br.eqP_ls, Br.eqP_lt, Br.eqP_lb, Br.eqP_bn, Br.eqP_bs, Br.eqP_bt, Br.eqP_bl, intsOf, List.getElem?_cons_zero, List.getElem?_cons_succ, List.getElem?_nil, List.set_cons_zero, List.set_cons_succ, List.map_cons, List.map_nil, List.cons_append, List.nil_append, List.length_cons, List.length_nil, List.replicate_succ, List.replicate_zero, List.append_nil, Option.bind_some, Option.bind_none, Option.map_some, Option.map_none, if_true, if_false, ite_true, ite_false, decide_true, decide_false, Bool.and_true, Bool.true_and, Bool.not_true, Bool.not_false, reduceIte, Option.isSome_some, Br.kit_NoneType_int, Br.kit_NoneType_bool, Br.kit_NoneType_str, Br.kit_NoneType_tuple, Br.kit_NoneType_list, Br.kit_NoneType_dict, Br.kit_bool_int, Br.kit_bool_bool, Br.kit_bool_str, Br.kit_bool_tuple, Br.kit_bool_list, Br.kit_bool_dict, Br.kit_int_int, Br.kit_int_bool, Br.kit_int_str, Br.kit_int_tuple, Br.kit_int_list, Br.kit_int_dict, Br.kit_str_int, Br.kit_str_bool, Br.kit_str_str, Br.kit_str_tuple, Br.kit_str_list, Br.kit_str_dict, Br.kit_tuple_int, Br.kit_tuple_bool, Br.kit_tuple_str, Br.kit_tuple_tuple, Br.kit_tuple_list, Br.kit_tuple_dict, Br.kit_list_int, Br.kit_list_bool, Br.kit_list_str, Br.kit_list_tuple, Br.kit_list_list, Br.kit_list_dict, Br.kit_dict_int, Br.kit_dict_bool, Br.kit_dict_str, Br.kit_dict_tuple, Br.kit_dict_list, Br.kit_dict_dict, L2.ixN, Br.rng_ok, Br.mul_ok_r, Br.mul_ok_l, LIM, Br.PV.i_int, Br.log2_lt_9000, Br.atI_0, Br.atI_1, Br.atI_2, lcntP, lidxP, bitsP, revP, cntP, sortedDP, minDP, maxDP, sortX, Br.x_try, Br.tryK_nx, Br.tryK_rt, Br.tryK_bk, Br.tryK_ct, Br.suiteX_nx, Br.suiteX_bk, Br.suiteX_ct, Br.suiteX_rt, Br.setX_some, Br.setX_none, Br.goneX_some, Br.goneX_none, Br.x_lock, Br.kLock_d, Br.lockR_nx, Br.lockR_rt, Br.l_callT', Br.v_callT, Br.kT1, Br.kT2, Br.kT3, Br.kT4_eq, Br.dropT_ok, Br.dropT_ex, Br.dropT_st, Br.sh_val, Br.sh_ref, Br.kXt, Br.v_xtup, Br.l_xtup, Br.lockV_s, Br.thin_0, Br.thin_c, Br.thinO_n, Br.thinO_s, Br.thinL_f, Br.thinL_l, Br.thinL_d, Br.thinL_t, Br.noD_n, Br.noD_b, Br.noD_i, Br.noD_s, Br.noD_e, Br.noD_t, Br.noD_x, Br.noD_l, Br.noD_d, Br.noDs_0, Br.noDs_c, Br.noDs_i, bd_most_bins_52e0_1, ph_most_bins_52e0, enough_4dd2 cs d _ hl hd, hp']); all_goals rfl), by omega, _, _, _, rfl, by omega, by omega, by omega, q4, by rw [Int.sub_add_cancel]; exact hp⟩
      · have e : high = low := by omega
        subst e
        exact .inl ⟨_, (by (conv => lhs; simp -implicitDefEqProofs [ioOk, Br.frameOf, lvsOf, Br.exSs_nil, Br.exSs_cons, SO.seq_nx, SO.seq_rt, SO.seq_ex, SO.seq_bk, SO.seq_ct, SO.seq_st, SO.fin_nx, SO.fin_rt, SO.fin_ex, Br.v_app, Br.v_mth, Br.v_tup, Br.v_lst, Br.v_cst, Br.v_dnew, Br.v_var, Br.v_call, Br.v_and, Br.v_or, Br.v_not, Br.v_ite, Br.v_chain, Br.v_sl2, Br.v_comp, Br.v_aref, Br.v_aval, Br.v_as0, Br.v_as, Br.v_es0, Br.v_es, Br.v_tand, Br.v_tor, Br.v_tnot, Br.v_te, Br.v_ts0, Br.v_ts1, Br.v_seq, Br.v_rng1, Br.v_rng2, Br.v_enum, Br.v_zip, Br.v_popE, Br.v_dispV, Br.l_dispV', Br.v_popL, Br.l_popE, Br.l_popL, Br.kPopE_eq, Br.putE_some, Br.putE_none, Br.v_rev, Br.l_app, Br.l_mth', Br.l_lst', Br.l_dnew', Br.l_call', Br.l_comp', Br.l_var, Br.l_cst, Br.l_tup, Br.l_and, Br.l_or, Br.l_not, Br.l_ite, Br.l_chain, Br.l_sl2, Br.x_set, Br.x_unp, Br.x_par, Br.x_setIx, Br.x_app, Br.x_ext, Br.x_popA, Br.x_insA, Br.kPopA, Br.kIns1, Br.kIns2, Br.x_ex, Br.x_ret, Br.x_retV, Br.x_retN, Br.x_if, Br.x_whl, Br.x_brk, Br.x_cont, Br.x_pass, Br.x_raise, Br.kOp, Br.kVal, Br.kCons, Br.kAs, Br.kConsE, Br.kEs, Br.kTup, Br.kLst, Br.kCall, Br.kMth2, Br.kMth, Br.kAnd, Br.kOr, Br.kNot, Br.kIte, Br.kCh4, Br.kCh3, Br.kCh2b, Br.kCh2, Br.kCh1, Br.kS3, Br.kS2, Br.kS1, Br.kC6, Br.kC5, Br.kC4, Br.kC3, Br.kC0, Br.kC2, Br.kC1, Br.kTand, Br.kTor, Br.kTnot, Br.kTe, Br.kSeq, Br.kR1, Br.kR3, Br.kR2, Br.kEn, Br.kZ2, Br.kZ1, Br.kRv, Br.kOwn, Br.kFro, Br.kOwnV, Br.kCallL, Br.kSet, Br.kUnp, Br.kPar, Br.kSI2, Br.kSI1, Br.kApp, Br.kExt, Br.kEx, Br.kRet, Br.kIf, Br.kFor, Br.ifE_t, Br.ifE_f, Br.ifS_t, Br.ifS_f, Br.okE_eq, Br.cF, Br.x_for, ne_eq, reduceCtorEq, not_false_eq_true, implies_true, ER.bind_ok, ER.bind_ex, ER.bind_st, ER.so_ok, ER.so_ex, ER.so_st, ER.of_some, ER.of_none, SO.of_some, SO.of_none, Br.bindS_k, Br.bindK_some, Br.bindK_none, Tg.bind, Tg.binds, at', setIxP, AV.pvs, AV.pv, AV.lvs, AV.lv, AV.refs, AV.back, maskL, LV.isFro, LV.pv, Br.callE_k, Br.callK0_some, Br.callK_ok, Br.callK_ex, froE, Br.opX_add, Br.opX_sub, Br.opX_mul, Br.opX_fdiv, Br.opX_mod, Br.opX_pow, Br.opX_neg, Br.opX_eq, Br.opX_ne, Br.opX_lt, Br.opX_le, Br.opX_gt, Br.opX_ge, Br.opX_isN, Br.opX_isNN, Br.opX_inn, Br.opX_nin, Br.opX_len, Br.opX_sum, Br.opX_abs, Br.opX_int1, Br.opX_str1, Br.opX_tuple1, Br.opX_list1, Br.opX_sorted, Br.opX_allL, Br.opX_anyL, Br.opX_min2, Br.opX_max2, Br.opX_minL, Br.opX_maxL, Br.opX_idx, Br.opX_rev, Br.opX_dget, Br.opX_values, Br.opX_dmod, Br.opX_lcnt, Br.opX_tcnt, Br.opX_lidx, Br.opX_bits, Br.opX_sortedD, Br.opX_minD, Br.opX_maxD, Br.opX_isB, Br.opX_isNB, Br.opX_isTy, Br.opX_slc, Br.opX_isEx, Br.opX_dict1, Br.opX_tupleX, Br.dn_non, Br.dn_bl, Br.dn_int, Br.dn_str, Br.dn_ty, Br.dn_exc, Br.dn_tup, Br.dn_xt, Br.dn_lst, Br.dn_dK, Br.dn_dT, Br.dn_dn, Br.isD_dn, Br.eqP_dnl, Br.eqP_dnr, tupleXP, opSem, addP, subP, mulP, fdivP, modP, powP, negP, eqOP, neOP, ltOP, leOP, gtOP, geOP, isNP, isNNP, isBP, isNBP, PV.isNon, lenP, sumP, absP, int1P, str1P, tuple1P, list1P, min2P, max2P, idxP, slcP, slcPart, dmodP, isTyOP, isTys, isTyP, tyName, ownV, Op.new, wipeE, Br.backE_nil, Br.backE_cons, Br.froO_f, Br.froO_n, Br.froO_0, Br.froO_o, seqOf, parE, ownL, keyP, recvOk, PV.isD, PV.isT, Br.eqP_ii, Br.eqP_ss, Br.eqP_bb, Br.eqP_nn, Br.eqP_tt, Br.eqP_ll, Br.eqPs_00, Br.eqPs_0c, Br.eqPs_c0, Br.eqPs_cc, Br.eqPs_ints, Br.eqP_xl, Br.eqP_xr, Br.eqP_ni, Br.eqP_ns, Br.eqP_nt, Br.eqP_nl, Br.eqP_nb, Br.eqP_in, Br.eqP_is, Br.eqP_it, Br.eqP_il, Br.eqP_sn, Br.eqP_si, Br.eqP_st, Br.eqP_sl, Br.eqP_sb, Br.eqP_tn, Br.eqP_ti, Br.eqP_ts, Br.eqP_tl, Br.eqP_tb, Br.eqP_ln, Br.eqP_li, Br.eqP_ls, Br.eqP_lt, Br.eqP_lb, Br.eqP_bn, Br.eqP_bs, Br.eqP_bt, Br.eqP_bl, intsOf, List.getElem?_cons_zero, List.getElem?_cons_succ, List.getElem?_nil, List.set_cons_zero, List.set_cons_succ, List.map_cons, List.map_nil, List.cons_append, List.nil_append, List.length_cons, List.length_nil, List.replicate_succ, List.replicate_zero, List.append_nil, Option.bind_some, Option.bind_none, Option.map_some, Option.map_none, if_true, if_false, ite_true, ite_false, decide_true, decide_false, Bool.and_true, Bool.true_and, Bool.not_true, Bool.not_false, reduceIte, Option.isSome_some, Br.kit_NoneType_int, Br.kit_NoneType_bool, Br.kit_NoneType_str, Br.kit_NoneType_tuple, Br.kit_NoneType_list, Br.kit_NoneType_dict, Br.kit_bool_int, Br.kit_bool_bool, Br.kit_bool_str, Br.kit_bool_tuple, Br.kit_bool_list, Br.kit_bool_dict, Br.kit_int_int, Br.kit_int_bool, Br.kit_int_str, Br.kit_int_tuple, Br.kit_int_list, Br.kit_int_dict, Br.kit_str_int, Br.kit_str_bool, Br.kit_str_str, Br.kit_str_tuple, Br.kit_str_list, Br.kit_str_dict, Br.kit_tuple_int, Br.kit_tuple_bool, Br.kit_tuple_str, Br.kit_tuple_tuple, Br.kit_tuple_list, Br.kit_tuple_dict, Br.kit_list_int, Br.kit_list_bool, Br.kit_list_str, Br.kit_list_tuple, Br.kit_list_list, Br.kit_list_dict, Br.kit_dict_int, Br.kit_dict_bool, Br.kit_dict_str, Br.kit_dict_tuple, Br.kit_dict_list, Br.kit_dict_dict, L2.ixN, Br.rng_ok, Br.mul_ok_r, Br.mul_ok_l, LIM, Br.PV.i_int, Br.log2_lt_9000, Br.atI_0, Br.atI_1, Br.atI_2, lcntP, lidxP, bitsP, revP, cntP, sortedDP, minDP, maxDP, sortX, Br.x_try, Br.tryK_nx, Br.tryK_rt, Br.tryK_bk, Br.tryK_ct, Br.suiteX_nx, Br.suiteX_bk, Br.suiteX_ct, Br.suiteX_rt, Br.setX_some, Br.setX_none, Br.goneX_some, Br.goneX_none, Br.x_lock, Br.kLock_d, Br.lockR_nx, Br.lockR_rt, Br.l_callT', Br.v_callT, Br.kT1, Br.kT2, Br.kT3, Br.kT4_eq, Br.dropT_ok, Br.dropT_ex, Br.dropT_st, Br.sh_val, Br.sh_ref, Br.kXt, Br.v_xtup, Br.l_xtup, Br.lockV_s, Br.thin_0, Br.thin_c, Br.thinO_n, Br.thinO_s, Br.thinL_f, Br.thinL_l, Br.thinL_d, Br.thinL_t, Br.noD_n, Br.noD_b, Br.noD_i, Br.noD_s, Br.noD_e, Br.noD_t, Br.noD_x, Br.noD_l, Br.noD_d, Br.noDs_0, Br.noDs_c, Br.noDs_i, wt_most_bins_52e0_1]); all_goals rfl), _, _, rfl, q1, q4, q5⟩)
    1000000 300 [some (.fro (.tup (cs.map .int))), some (.fro (.int d)), some (.fro (.int 0)), some (.fro (.int (cs.sum / d))), none] (by omega)
    ⟨0, _, _, rfl, by omega, Int.ediv_nonneg h0 (by omega), by
        have := Int.ediv_le_self d h0
        omega, by rw [Sm_zero hc]; simp, by
        have h3 := Sm_le (cs := cs) (cs.sum / d + 1)
        have h4 := Int.lt_ediv_add_one_mul_self cs.sum h1
        rw [Int.mul_comm] at h4
        omega⟩
  obtain ⟨low, l4, e, q1, q2, q3⟩ := key
  rw [e]
  exact ⟨low, q1, q2, by omega, by simp -implicitDefEqProofs [ioOk, Br.frameOf, lvsOf, Br.exSs_nil, Br.exSs_cons, SO.seq_nx, SO.seq_rt, SO.seq_ex, SO.seq_bk, SO.seq_ct, SO.seq_st, SO.fin_nx, SO.fin_rt, SO.fin_ex, Br.v_app, Br.v_mth, Br.v_tup, Br.v_lst, Br.v_cst, Br.v_dnew, Br.v_var, Br.v_call, Br.v_and, Br.v_or, Br.v_not, Br.v_ite, Br.v_chain, Br.v_sl2, Br.v_comp, Br.v_aref, Br.v_aval, Br.v_as0, Br.v_as, Br.v_es0, Br.v_es, Br.v_tand, Br.v_tor, Br.v_tnot, Br.v_te, Br.v_ts0, Br.v_ts1, Br.v_seq, Br.v_rng1, Br.v_rng2, Br.v_enum, Br.v_zip, Br.v_popE, Br.v_dispV, Br.l_dispV', Br.v_popL, Br.l_popE, Br.l_popL, Br.kPopE_eq, Br.putE_some, Br.putE_none, Br.v_rev, Br.l_app, Br.l_mth', Br.l_lst', Br.l_dnew', Br.l_call', Br.l_comp', Br.l_var, Br.l_cst, Br.l_tup, Br.l_and, Br.l_or, Br.l_not, Br.l_ite, Br.l_chain, Br.l_sl2, Br.x_set, Br.x_unp, Br.x_par, Br.x_setIx, Br.x_app, Br.x_ext, Br.x_popA, Br.x_insA, Br.kPopA, Br.kIns1, Br.kIns2, Br.x_ex, Br.x_ret, Br.x_retV, Br.x_retN, Br.x_if, Br.x_whl, Br.x_brk, Br.x_cont, Br.x_pass, Br.x_raise, Br.kOp, Br.kVal, Br.kCons, Br.kAs, Br.kConsE, Br.kEs, Br.kTup, Br.kLst, Br.kCall, Br.kMth2, Br.kMth, Br.kAnd, Br.kOr, Br.kNot, Br.kIte, Br.kCh4, Br.kCh3, Br.kCh2b, Br.kCh2, Br.kCh1, Br.kS3, Br.kS2, Br.kS1, Br.kC6, Br.kC5, Br.kC4, Br.kC3, Br.kC0, Br.kC2, Br.kC1, Br.kTand, Br.kTor, Br.kTnot, Br.kTe, Br.kSeq, Br.kR1, Br.kR3, Br.kR2, Br.kEn, Br.kZ2, Br.kZ1, Br.kRv, Br.kOwn, Br.kFro, Br.kOwnV, Br.kCallL, Br.kSet, Br.kUnp, Br.kPar, Br.kSI2, Br.kSI1, Br.kApp, Br.kExt, Br.kEx, Br.kRet, Br.kIf, Br.kFor, Br.ifE_t, Br.ifE_f, Br.ifS_t, Br.ifS_f, Br.okE_eq, Br.cF, Br.x_for, ne_eq, reduceCtorEq, not_false_eq_true, implies_true, ER.bind_ok, ER.bind_ex, ER.bind_st, ER.so_ok, ER.so_ex, ER.so_st, ER.of_some, ER.of_none, SO.of_some, SO.of_none, Br.bindS_k, Br.bindK_some, Br.bindK_none, Tg.bind, Tg.binds, at', setIxP, AV.pvs, AV.pv, AV.lvs, AV.lv, AV.refs, AV.back, maskL, LV.isFro, LV.pv, Br.callE_k, Br.callK0_some, Br.callK_ok, Br.callK_ex, froE, Br.opX_add, Br.opX_sub, Br.opX_mul, Br.opX_fdiv, Br.opX_mod, Br.opX_pow, Br.opX_neg, Br.opX_eq, Br.opX_ne, Br.opX_lt, Br.opX_le, Br.opX_gt, Br.opX_ge, Br.opX_isN, Br.opX_isNN, Br.opX_inn, Br.opX_nin, Br.opX_len, Br.opX_sum, Br.opX_abs, Br.opX_int1, Br.opX_str1, Br.opX_tuple1, Br.opX_list1, Br.opX_sorted, Br.opX_allL, Br.opX_anyL, Br.opX_min2, Br.opX_max2, Br.opX_minL, Br.opX_maxL, Br.opX_idx, Br.opX_rev, Br.opX_dget, Br.opX_values, Br.opX_dmod, Br.opX_lcnt, Br.opX_tcnt, Br.opX_lidx, Br.opX_bits, Br.opX_sortedD, Br.opX_minD, Br.opX_maxD, Br.opX_isB, Br.opX_isNB, Br.opX_isTy, Br.opX_slc, Br.opX_isEx, Br.opX_dict1, Br.opX_tupleX, Br.dn_non, Br.dn_bl, Br.dn_int, Br.dn_str, Br.dn_ty, Br.dn_exc, Br.dn_tup, Br.dn_xt, Br.dn_lst, Br.dn_dK, Br.dn_dT, Br.dn_dn, Br.isD_dn, Br.eqP_dnl, Br.eqP_dnr, tupleXP, opSem, addP, subP, mulP, fdivP, modP, powP, negP, eqOP, neOP, ltOP, leOP, gtOP, geOP, isNP, isNNP, isBP, isNBP, PV.isNon, lenP, sumP, absP, int1P, str1P, tuple1P, list1P, min2P, max2P, idxP, slcP, slcPart, dmodP, isTyOP, isTys, isTyP, tyName, ownV, Op.new, wipeE, Br.backE_nil, Br.backE_cons, Br.froO_f, Br.froO_n, Br.froO_0, Br.froO_o, seqOf, parE, ownL, keyP, recvOk, PV.isD, PV.isT, Br.eqP_ii, Br.eqP_ss, Br.eqP_bb, Br.eqP_nn, Br.eqP_tt, Br.eqP_ll, Br.eqPs_00, Br.eqPs_0c, Br.eqPs_c0, Br.eqPs_cc, Br.eqPs_ints, Br.eqP_xl, Br.eqP_xr, Br.eqP_ni, Br.eqP_ns, Br.eqP_nt, Br.eqP_nl, Br.eqP_nb, Br.eqP_in, Br.eqP_is, Br.eqP_it, Br.eqP_il, Br.eqP_sn, Br.eqP_si, Br.eqP_st, Br.eqP_sl, Br.eqP_sb, Br.eqP_tn, Br.eqP_ti, Br.eqP_ts, Br.eqP_tl, Br.eqP_tb, Br.eqP_ln, Br.eqP_li, Br.eqP_ls, Br.eqP_lt, Br.eqP_lb, Br.eqP_bn, Br.eqP_bs, Br.eqP_bt, Br.eqP_bl, intsOf, List.getElem?_cons_zero, List.getElem?_cons_succ, List.getElem?_nil, List.set_cons_zero, List.set_cons_succ, List.map_cons, List.map_nil, List.cons_append, List.nil_append, List.length_cons, List.length_nil, List.replicate_succ, List.replicate_zero, List.append_nil, Option.bind_some, Option.bind_none, Option.map_some, Option.map_none, if_true, if_false, ite_true, ite_false, decide_true, decide_false, Bool.and_true, Bool.true_and, Bool.not_true, Bool.not_false, reduceIte, Option.isSome_some, Br.kit_NoneType_int, Br.kit_NoneType_bool, Br.kit_NoneType_str, Br.kit_NoneType_tuple, Br.kit_NoneType_list, Br.kit_NoneType_dict, Br.kit_bool_int, Br.kit_bool_bool, Br.kit_bool_str, Br.kit_bool_tuple, Br.kit_bool_list, Br.kit_bool_dict, Br.kit_int_int, Br.kit_int_bool, Br.kit_int_str, Br.kit_int_tuple, Br.kit_int_list, Br.kit_int_dict, Br.kit_str_int, Br.kit_str_bool, Br.kit_str_str, Br.kit_str_tuple, Br.kit_str_list, Br.kit_str_dict, Br.kit_tuple_int, Br.kit_tuple_bool, Br.kit_tuple_str, Br.kit_tuple_tuple, Br.kit_tuple_list, Br.kit_tuple_dict, Br.kit_list_int, Br.kit_list_bool, Br.kit_list_str, Br.kit_list_tuple, Br.kit_list_list, Br.kit_list_dict, Br.kit_dict_int, Br.kit_dict_bool, Br.kit_dict_str, Br.kit_dict_tuple, Br.kit_dict_list, Br.kit_dict_dict, L2.ixN, Br.rng_ok, Br.mul_ok_r, Br.mul_ok_l, LIM, Br.PV.i_int, Br.log2_lt_9000, Br.atI_0, Br.atI_1, Br.atI_2, lcntP, lidxP, bitsP, revP, cntP, sortedDP, minDP, maxDP, sortX, Br.x_try, Br.tryK_nx, Br.tryK_rt, Br.tryK_bk, Br.tryK_ct, Br.suiteX_nx, Br.suiteX_bk, Br.suiteX_ct, Br.suiteX_rt, Br.setX_some, Br.setX_none, Br.goneX_some, Br.goneX_none, Br.x_lock, Br.kLock_d, Br.lockR_nx, Br.lockR_rt, Br.l_callT', Br.v_callT, Br.kT1, Br.kT2, Br.kT3, Br.kT4_eq, Br.dropT_ok, Br.dropT_ex, Br.dropT_st, Br.sh_val, Br.sh_ref, Br.kXt, Br.v_xtup, Br.l_xtup, Br.lockV_s, Br.thin_0, Br.thin_c, Br.thinO_n, Br.thinO_s, Br.thinL_f, Br.thinL_l, Br.thinL_d, Br.thinL_t, Br.noD_n, Br.noD_b, Br.noD_i, Br.noD_s, Br.noD_e, Br.noD_t, Br.noD_x, Br.noD_l, Br.noD_d, Br.noDs_0, Br.noDs_c, Br.noDs_i]⟩
end Cm
set_option maxHeartbeats 0
namespace Cm
open PySem Br
-- use: U_list
/-! a tuple with one number put otherwise -/
theorem cut_setL {L : List Int} {i : Nat} (x : Int) (hi : i < L.length) : cutP (L.map PV.int) none (some (i : Int)) ++ PV.int x :: cutP (L.map PV.int) (some ((i : Int) + 1)) none = (L.set i x).map .int := by
  unfold cutP
  rw [HT.sIx_none, HT.sIx_none, HT.sIx_nat, show (i : Int) + 1 = ((i + 1 : Nat) : Int) by omega, HT.sIx_nat, List.set_eq_take_append_cons_drop, if_pos hi]
  simp only [List.length_map, List.drop_zero, List.map_append, List.map_cons, List.map_take, List.map_drop, Nat.sub_zero]
  rw [show min i L.length = i by omega, show min (i + 1) L.length = i + 1 by omega, List.take_of_length_le (l := List.drop (i + 1) (L.map PV.int)) (by simp)]
theorem cut_lenL {L : List Int} {i : Nat} (hi : i < L.length) : (cutP (L.map PV.int) none (some (i : Int))).length = i := by
  unfold cutP
  rw [HT.sIx_none, HT.sIx_nat]
  simp only [List.length_map, List.drop_zero, List.length_take, Nat.sub_zero]
  omega
end Cm
set_option maxHeartbeats 0
namespace Cm
open PySem Br
-- use: U_list BrD3
/-! min and max of a tuple of ints -/
theorem ltD_int (a b : Int) : ltD (.int a) (.int b) = decide (a < b) := by
  unfold ltD
  simp [PV.toD, PySem.W.dataLt, PySem.W.keyToks, PyProof.Rows.lexLt, PyProof.Rows.itemOrd, PyProof.Rows.itemLt]
theorem fold_ltD : ∀ (l : List Int) (x : Int), (l.map PV.int).foldl (fun a y => if ltD y a = true then y else a) (.int x) = .int (l.foldl (fun a b => if b < a then b else a) x)
  | [], _ => rfl
  | y :: l, x => by
    rw [List.map_cons, List.foldl_cons, List.foldl_cons, ltD_int]
    by_cases c : y < x
    · rw [if_pos (by simpa using c), if_pos c]
      exact fold_ltD l y
    · rw [if_neg (by simpa using c), if_neg c]
      exact fold_ltD l x
theorem alike_int (a b : Int) : alikeP (.int a) (.int b) = true := by
  unfold alikeP
  simp [PV.toD, PySem.W.alike]
theorem minOk_ints (l : List Int) : minOk (l.map PV.int) = true := by
  unfold minOk
  simp only [Bool.and_eq_true, List.all_eq_true]
  refine ⟨⟨by unfold PV.isT; exact isT_ints 59 l, fun x hx y hy => ?_⟩, fun x hx => ?_⟩
  · obtain ⟨a, _, rfl⟩ := List.mem_map.mp hx
    obtain ⟨b, _, rfl⟩ := List.mem_map.mp hy
    exact alike_int a b
  · obtain ⟨a, _, rfl⟩ := List.mem_map.mp hx
    rfl
theorem minT_ints {l : List Int} (h : l ≠ []) : ∃ m : Int, minDP [.tup (l.map .int)] = some (.int m) ∧ (0 ≤ m ↔ (l.all fun x => decide (0 ≤ x)) = true) := by
  cases l with
  | nil => exact absurd rfl h
  | cons x l =>
    have h1 := minOk_ints (x :: l)
    rw [List.map_cons] at h1
    refine ⟨l.foldl (fun a b => if b < a then b else a) x, ?_, ?_⟩
    · show (if minOk (PV.int x :: l.map PV.int) = true then some ((l.map PV.int).foldl (fun a y => if ltD y a = true then y else a) (.int x)) else none) = _
      rw [if_pos h1, fold_ltD]
    · obtain ⟨m1, m2⟩ := fold_min l x
      rw [List.all_eq_true]
      constructor
      · intro h y hy
        have := m2 y hy
        exact decide_eq_true (by omega)
      · intro h
        exact of_decide_eq_true (h _ m1)
theorem fold_ltDM : ∀ (l : List Int) (x : Int), (l.map PV.int).foldl (fun a y => if ltD a y = true then y else a) (.int x) = .int (l.foldl (fun a b => if b > a then b else a) x)
  | [], _ => rfl
  | y :: l, x => by
    rw [List.map_cons, List.foldl_cons, List.foldl_cons, ltD_int]
    by_cases c : x < y
    · rw [if_pos (by simpa using c), if_pos c]
      exact fold_ltDM l y
    · rw [if_neg (by simpa using c), if_neg c]
      exact fold_ltDM l x
theorem maxT_ints {l : List Int} (h : l ≠ []) : ∃ m : Int, maxDP [.tup (l.map .int)] = some (.int m) ∧ m ∈ l ∧ ∀ c ∈ l, c ≤ m := by
  cases l with
  | nil => exact absurd rfl h
  | cons x l =>
    have h1 := minOk_ints (x :: l)
    rw [List.map_cons] at h1
    obtain ⟨m1, m2⟩ := fold_max l x
    refine ⟨l.foldl (fun a b => if b > a then b else a) x, ?_, m1, m2⟩
    show (if minOk (PV.int x :: l.map PV.int) = true then some ((l.map PV.int).foldl (fun a y => if ltD a y = true then y else a) (.int x)) else none) = _
    rw [if_pos h1, fold_ltDM]
end Cm
set_option maxHeartbeats 0
namespace Cm
open PySem Br
-- use: BrD3
def gd (l : List Int) (i : Nat) : Int := l.getD i 0
structure KS (ps : List (Int × Int)) (L : List Int) : Prop where
  z : gd L 0 = 0
  mono : ∀ i, i + 1 < L.length → gd L i ≤ gd L (i+1)
  up : ∀ q ∈ ps, ∀ i, q.2.toNat ≤ i → i < L.length → gd L (i - q.2.toNat) + q.1 ≤ gd L i
structure KE (ps : List (Int × Int)) (L : List Int) : Prop extends KS ps L where
  at' : ∀ i, i + 1 < L.length → gd L (i+1) = gd L i ∨ ∃ q ∈ ps, q.2.toNat ≤ i+1 ∧ gd L (i+1) = gd L (i+1-q.2.toNat) + q.1
theorem KS.mono' {ps : List (Int × Int)} {L : List Int} (h : KS ps L) : ∀ (d i : Nat), i + d < L.length → gd L i ≤ gd L (i+d)
  | 0, i, _ => Int.le_refl _
  | d+1, i, hi => by
    have h1 := h.mono' d i (by omega)
    have h2 := h.mono (i+d) (by omega)
    exact Int.le_trans h1 h2
/-- the least one is below each -/
theorem KE.le {ps : List (Int × Int)} {L D : List Int} (hw : ∀ q ∈ ps, 1 ≤ q.2) (h : KE ps L) (k : KS ps D) (hl : L.length = D.length) : ∀ i, i < L.length → gd L i ≤ gd D i := by
  intro i
  induction i using Nat.strongRecOn with
  | _ i ih =>
    intro hi
    cases i with
    | zero => rw [h.z, k.z]; exact Int.le_refl _
    | succ i =>
      rcases h.at' i hi with e | ⟨q, hq, q1, e⟩
      · rw [e]
        have h1 := ih i (by omega) (by omega)
        have h2 := k.mono i (by omega)
        omega
      · rw [e]
        have := hw q hq
        have h1 := ih (i+1-q.2.toNat) (by omega) (by omega)
        have h2 := k.up q hq (i+1) q1 (by omega)
        omega
/-- one more thing -/
theorem KS.step {ps : List (Int × Int)} {s w : Int} {f g : List Int} (hw : 1 ≤ w) (hs : 0 ≤ s) (h : KS ps f) (hl : g.length = f.length)
    (e : ∀ j, j < f.length → gd g j = if w.toNat ≤ j then (if gd g (j - w.toNat) + s > gd f j then gd g (j - w.toNat) + s else gd f j) else gd f j) : KS ((s, w) :: ps) g where
  z := by
    by_cases hn : 0 < f.length
    · have := e 0 hn
      rw [if_neg (by omega)] at this
      rw [this, h.z]
    · have h0 : g = [] := List.eq_nil_of_length_eq_zero (by omega)
      rw [h0]; rfl
  mono := by
    intro i
    induction i using Nat.strongRecOn with
    | _ i ih =>
      intro hi
      have hm := h.mono i (by omega)
      rw [e i (by omega), e (i+1) (by omega)]
      by_cases h1 : w.toNat ≤ i
      · have h2 : w.toNat ≤ i + 1 := by omega
        rw [if_pos h1, if_pos h2]
        have := ih (i - w.toNat) (by omega) (by omega)
        rw [show i - w.toNat + 1 = i + 1 - w.toNat by omega] at this
        split <;> split <;> omega
      · rw [if_neg h1]
        split
        · split <;> omega
        · exact hm
  up := by
    intro q hq i hqi hi
    have key : ∀ i, i < g.length → w.toNat ≤ i → gd g (i - w.toNat) + s ≤ gd g i := fun i hi h1 => by
      rw [e i (by omega), if_pos h1]
      split <;> omega
    rcases List.mem_cons.mp hq with rfl | hq
    · exact key i hi hqi
    · revert hqi hi
      induction i using Nat.strongRecOn with
      | _ i ih =>
        intro hqi hi
        have ge : ∀ j, j < g.length → gd f j ≤ gd g j := fun j hj => by
          rw [e j (by omega)]
          split
          · split <;> omega
          · exact Int.le_refl _
        have h1 := h.up q hq i hqi (by omega)
        have h2 := ge i hi
        rw [e (i - q.2.toNat) (by omega)]
        split
        · split
          · rename_i c1 c2
            have h3 := ih (i - w.toNat) (by omega) (by omega) (by omega)
            have h4 := key i hi (by omega)
            rw [show i - w.toNat - q.2.toNat = i - q.2.toNat - w.toNat by omega] at h3
            omega
          · omega
        · omega
theorem step_le {s w : Int} {f g L : List Int} (hw : 1 ≤ w) (hl : g.length = f.length) (hL : L.length = f.length)
    (e : ∀ j, j < f.length → gd g j = if w.toNat ≤ j then (if gd g (j - w.toNat) + s > gd f j then gd g (j - w.toNat) + s else gd f j) else gd f j)
    (hf : ∀ i, i < f.length → gd f i ≤ gd L i) (hu : ∀ i, w.toNat ≤ i → i < L.length → gd L (i - w.toNat) + s ≤ gd L i) : ∀ i, i < f.length → gd g i ≤ gd L i := by
  intro i
  induction i using Nat.strongRecOn with
  | _ i ih =>
    intro hi
    rw [e i hi]
    split
    · rename_i c
      have h1 := ih (i - w.toNat) (by omega) (by omega)
      have h2 := hu i c (by omega)
      have h3 := hf i hi
      split <;> omega
    · exact hf i hi
theorem gd_ext {a b : List Int} (hl : a.length = b.length) (h : ∀ i, i < a.length → gd a i = gd b i) : a = b := by
  apply List.ext_getElem hl
  intro i h1 h2
  have := h i h1
  unfold gd at this
  rwa [List.getD_eq_getElem?_getD, List.getD_eq_getElem?_getD, List.getElem?_eq_getElem h1, List.getElem?_eq_getElem h2] at this
theorem gd_set {l : List Int} {i j : Nat} {x : Int} (hi : i < l.length) : gd (l.set i x) j = if j = i then x else gd l j := by
  unfold gd
  rw [List.getD_eq_getElem?_getD, List.getD_eq_getElem?_getD]
  by_cases h : j = i
  · subst h; rw [if_pos rfl, List.getElem?_set_self hi]; rfl
  · rw [if_neg h, List.getElem?_set_ne (Ne.symm h)]
theorem gd_rep (n i : Nat) : gd (List.replicate n 0) i = 0 := by
  unfold gd
  rw [List.getD_eq_getElem?_getD]
  by_cases h : i < n
  · rw [List.getElem?_replicate_of_lt h]; rfl
  · rw [List.getElem?_eq_none (by simpa using h)]; rfl
theorem gd_app {l : List Int} {x : Int} {i : Nat} : gd (l ++ [x]) i = if i < l.length then gd l i else if i = l.length then x else 0 := by
  unfold gd
  rw [List.getD_eq_getElem?_getD, List.getD_eq_getElem?_getD]
  by_cases h : i < l.length
  · rw [if_pos h, List.getElem?_append_left h]
  · rw [if_neg h]
    by_cases h2 : i = l.length
    · subst h2; simp
    · rw [if_neg h2, List.getElem?_eq_none (by simp; omega)]; rfl
theorem KE.uniq {ps : List (Int × Int)} {L D : List Int} (hw : ∀ q ∈ ps, 1 ≤ q.2) (h : KE ps L) (k : KE ps D) (hl : L.length = D.length) : L = D :=
  gd_ext hl fun i hi => Int.le_antisymm (h.le hw k.toKS hl i hi) (k.le hw h.toKS hl.symm i (by omega))
def sumsI (L : List Int) (t : Int) (ps : List (Int × Int)) : List Int := ps.filterMap fun q => if q.2 ≤ t then some (gd L (t - q.2).toNat + q.1) else none
def nxtI (L : List Int) (t : Int) (ps : List (Int × Int)) : Int := (sumsI L t ps).foldl (fun a b => if b > a then b else a) (gd L (t - 1).toNat)
theorem KE.nil (ps : List (Int × Int)) (hw : ∀ q ∈ ps, 1 ≤ q.2) : KE ps [0] where
  z := rfl
  mono := fun i hi => absurd hi (by simp)
  up := fun q hq i h1 h2 => by
    have := hw q hq
    have : i < 1 := h2
    omega
  at' := fun i hi => absurd hi (by simp)
theorem KE.next {ps : List (Int × Int)} {L : List Int} {i : Nat} (hw : ∀ q ∈ ps, 1 ≤ q.2) (h : KE ps L) (hl : L.length = i + 1) : KE ps (L ++ [nxtI L ((i : Int) + 1) ps]) := by
  obtain ⟨m1, m2⟩ := fold_max (sumsI L ((i : Int) + 1) ps) (gd L ((i : Int) + 1 - 1).toNat)
  have e0 : ((i : Int) + 1 - 1).toNat = i := by omega
  have hv : (sumsI L ((i : Int) + 1) ps).foldl (fun a b => if b > a then b else a) (gd L ((i : Int) + 1 - 1).toNat) = nxtI L ((i : Int) + 1) ps := rfl
  rw [hv, e0] at m1 m2
  generalize nxtI L ((i : Int) + 1) ps = v at m1 m2
  have old : ∀ j, j ≤ i → gd (L ++ [v]) j = gd L j := fun j hj => by rw [gd_app, if_pos (by omega)]
  have new : gd (L ++ [v]) (i + 1) = v := by rw [gd_app, if_neg (by omega), if_pos (by omega)]
  have hlen : (L ++ [v]).length = i + 2 := by simp [hl]
  refine { z := by rw [old 0 (by omega)]; exact h.z, mono := fun j hj => ?_, up := fun q hq j h1 h2 => ?_, at' := fun j hj => ?_ }
  · rw [hlen] at hj
    by_cases hji : j = i
    · subst hji
      rw [new, old j (by omega)]
      exact m2 _ (by simp)
    · rw [old j (by omega), old (j+1) (by omega)]
      exact h.mono j (by omega)
  · rw [hlen] at h2
    have hq1 := hw q hq
    by_cases hji : j = i + 1
    · subst hji
      rw [new, old (i + 1 - q.2.toNat) (by omega)]
      refine m2 _ (List.mem_cons_of_mem _ (List.mem_filterMap.mpr ⟨q, hq, ?_⟩))
      rw [if_pos (by omega)]
      congr 2
      congr 1
      omega
    · rw [old j (by omega), old (j - q.2.toNat) (by omega)]
      exact h.up q hq j h1 (by omega)
  · rw [hlen] at hj
    by_cases hji : j = i
    · subst hji
      rw [new, old j (by omega)]
      rcases List.mem_cons.mp m1 with e | e
      · exact .inl e
      · obtain ⟨q, hq, e⟩ := List.mem_filterMap.mp e
        have hq1 := hw q hq
        split at e
        · rename_i c
          cases e
          refine .inr ⟨q, hq, by omega, ?_⟩
          rw [old (j + 1 - q.2.toNat) (by omega)]
          congr 2
          omega
        · cases e
    · rw [old j (by omega), old (j+1) (by omega)]
      rcases h.at' j (by omega) with e | ⟨q, hq, h1, e⟩
      · exact .inl e
      · have hq1 := hw q hq
        exact .inr ⟨q, hq, h1, by rw [old (j + 1 - q.2.toNat) (by omega)]; exact e⟩
theorem zipP_ps : ∀ (ps : List (Int × Int)), zipP ((ps.map (·.1)).map .int) ((ps.map (·.2)).map .int) = ps.map fun q => .tup [.int q.1, .int q.2]
  | [] => rfl
  | q :: ps => by
    rw [List.map_cons, List.map_cons, List.map_cons, List.map_cons, List.map_cons]
    unfold zipP
    rw [zipP_ps ps]
theorem atI_gd {L : List Int} {t : Int} (h0 : 0 ≤ t) (h1 : t < L.length) : L2.atI (L.map PV.int) t = some (.int (gd L t.toNat)) := by
  obtain ⟨j, rfl⟩ := Int.eq_ofNat_of_zero_le h0
  refine atI_n _ j _ ?_
  have hj : j < L.length := by omega
  unfold gd
  rw [List.getElem?_map, List.getElem?_eq_getElem hj, List.getD_eq_getElem?_getD, Int.toNat_natCast, List.getElem?_eq_getElem hj]
  rfl
theorem atI_last {L : List Int} (h : 0 < L.length) : L2.atI (L.map PV.int) (-1) = some (.int (gd L (L.length - 1))) := by
  unfold L2.atI L2.ixN
  rw [if_neg (by omega), if_pos (by rw [List.length_map]; omega)]
  have e : (-1 + ((L.map PV.int).length : Int)).toNat = L.length - 1 := by rw [List.length_map]; omega
  simp only [e]
  have hj : L.length - 1 < L.length := by omega
  simp [gd, hj]
end Cm
set_option maxHeartbeats 0
namespace Cm
open PySem Br
def el_law_changed_right_6199_1 : Br.Ex := .popE 4 (.call 364 [.ref 0, .val (.app .len [.ref 4])])
def el_law_changed_right_6199_2 : Br.Ex := .app .mul [.ref 6, .ref 12]
def el_law_changed_right_6199_3 : Br.Ex := .call 575 [.ref 1, .ref 10]
def el_law_changed_right_6199_4 : Br.Ex := .app .lt [.val (.app .idx [.ref 9, .ref 11]), .val (.app .idx [.ref 9, .val (.app .add [.ref 11, .val (.cst (.int 1))])])]
def el_law_changed_right_6199_5 : Br.Ex := .app .gt [.ref 10, .val (.cst (.int 0))]
def ir_law_changed_right_6199 : Fn := ⟨13, 3, [0, 1, 2], [.set 3 (.call 575 [.ref 1, .ref 2]), .set 4 (.app .list1 [.ref 1]), .set 5 (.app .tuple1 [.val (.comp (.rng1 (.app .len [.ref 1])) (.one 11) [11] [] el_law_changed_right_6199_1)]), .ite (.e (.app .ne [.val (.call 575 [.ref 5, .ref 2]), .ref 3])) [.ret (.cst (.bl false))] [], .set 6 (.app .add [.val (.cst (.int 2)), .val (.call 364 [.ref 0, .val (.cst (.int 8))])]), .set 7 (.call 575 [.val (.app .tuple1 [.val (.comp (.seq (.var 1)) (.one 12) [12] [] el_law_changed_right_6199_2)]), .ref 2]), .ite (.not (.e (.chain .le .lt (.app .mul [.ref 6, .ref 3]) (.var 7) (.app .mul [.ref 6, .val (.app .add [.ref 3, .val (.cst (.int 1))])])))) [.ret (.cst (.bl false))] [], .set 8 (.call 364 [.ref 0, .val (.app .len [.ref 1])]), .ite (.e (.app .nin [.val (.app .sub [.val (.call 575 [.val (.app .add [.val (.app .add [.val (.app (.slc false true) [.ref 1, .ref 8]), .val (.tup [.app .add [.val (.app .idx [.ref 1, .ref 8]), .val (.cst (.int 1))]])]), .val (.app (.slc true false) [.ref 1, .val (.app .add [.ref 8, .val (.cst (.int 1))])])]), .ref 2]), .ref 3]), .val (.lst [.cst (.int 0), .cst (.int 1)])])) [.ret (.cst (.bl false))] [], .ite (.and (.e (.app .lt [.val (.app .len [.ref 1]), .val (.cst (.int 12))])) (.e (.app .lt [.val (.call 575 [.val (.app .add [.ref 1, .val (.tup [.call 364 [.ref 0, .val (.cst (.int 50))]])]), .ref 2]), .ref 3]))) [.ret (.cst (.bl false))] [], .set 9 (.comp (.rng2 (.cst (.int 1)) (.cst (.int 13))) (.one 10) [10] [] el_law_changed_right_6199_3), .ite (.or (.e (.app .anyL [.val (.comp (.rng1 (.cst (.int 11))) (.one 11) [11] [] el_law_changed_right_6199_4)])) (.e (.app .anyL [.val (.comp (.seq (.app (.slc true false) [.ref 9, .val (.app .len [.ref 1])])) (.one 10) [10] [] el_law_changed_right_6199_5)]))) [.ret (.cst (.bl false))] [], .ret (.and (.app .eq [.val (.app .idx [.ref 9, .val (.cst (.int 0))]), .val (.app .sum [.ref 1])]) (.app .eq [.val (.app .idx [.ref 9, .val (.cst (.int 1))]), .val (.app .min2 [.val (.app .fdiv [.val (.app .sum [.ref 1]), .val (.cst (.int 2))]), .val (.app .sub [.val (.app .sum [.ref 1]), .val (.app .maxD [.ref 1])])])]))]⟩
def ph_law_changed_right_6199 : Nat → List LV → CR := fun j => match j with | 364 => g_law_take_9d40 | 575 => g_most_bins_52e0 | _ => fun _ => .st
def g_law_changed_right_6199 : List LV → CR := runFn ph_law_changed_right_6199 1000000 ir_law_changed_right_6199
-- use: U_list U_most U_cut U_tmin U_knap
theorem compL_runI {f : PV → Br.Env → ER (Option PV)} (I : Nat → List PV → Br.Env → Prop) : ∀ {xs : List PV} {ρ : Br.Env} (k : Nat) (done : List PV), I k done ρ → (∀ (i : Nat) x done ρ, xs[i]? = some x → I (k + i) done ρ → ∃ ρ' r, f x ρ = .ok r ρ' ∧ I (k + i + 1) (done ++ r.toList) ρ') → ∃ ρ' ys, compL f xs ρ = .ok ys ρ' ∧ I (k + xs.length) (done ++ ys) ρ'
  | [], ρ, k, done, i, _ => ⟨ρ, [], rfl, by simpa using i⟩
  | x :: xs, ρ, k, done, i, H => by
    obtain ⟨ρ1, r, h1, i1⟩ := H 0 x done ρ rfl i
    obtain ⟨ρ2, ys, h2, i2⟩ := compL_runI I (xs := xs) (k + 1) _ i1 fun i y d ρ hy hi => by
      have := H (i + 1) y d ρ (by simpa using hy) (by rw [show k + (i + 1) = k + 1 + i by omega]; exact hi)
      rw [show k + (i + 1) + 1 = k + 1 + i + 1 by omega] at this
      exact this
    refine ⟨ρ2, r.toList ++ ys, ?_, ?_⟩
    · unfold compL
      rw [h1]
      cases r with
      | none => simpa using h2
      | some y => simp [h2]
    · rw [List.length_cons, show k + (xs.length + 1) = k + 1 + xs.length by omega, ← List.append_assoc]
      exact i2
theorem most {cs : List Int} {d : Int} (hl : cs.length ≤ 20) (h1 : 0 < d) (h2 : d ≤ 12) (hc : ∀ c ∈ cs, 0 ≤ c ∧ c ≤ 1000000000000000000000000000000000000000000000000000000000000) : ∃ r : Int, IsM cs d r ∧ g_most_bins_52e0 [.fro (.tup (cs.map .int)), .fro (.int d)] = .ok (.fro (.int r)) [.fro (.tup (cs.map .int)), .fro (.int d)] := by
  have hs : ∀ cs : List Int, (∀ c ∈ cs, 0 ≤ c ∧ c ≤ 1000000000000000000000000000000000000000000000000000000000000) → cs.sum ≤ cs.length * 1000000000000000000000000000000000000000000000000000000000000 := fun cs => by
    induction cs with
    | nil => intro _; simp
    | cons c cs ih =>
      intro h
      have := ih fun x hx => h x (by simp [hx])
      have := (h c (by simp)).2
      rw [List.sum_cons, List.length_cons]
      omega
  have h3 := hs cs hc
  obtain ⟨r, a, b, c, e⟩ := most_52e0 cs d (by omega) h1 h2 (fun c h => (hc c h).1) (by omega)
  exact ⟨r, ⟨a, b, c⟩, e⟩
theorem Sm_erase {cs : List Int} {k : Nat} (hk : k < cs.length) (t : Int) : Sm (cs.eraseIdx k) t + Sm [cs[k]] t = Sm cs t := by
  have e : cs = cs.take k ++ cs[k] :: cs.drop (k + 1) := by
    rw [List.getElem_cons_drop, List.take_append_drop]
  have e2 : Sm cs t = Sm (cs.take k) t + Sm (cs[k] :: cs.drop (k + 1)) t := by
    rw [← Sm_app]
    exact congrArg (Sm · t) e
  rw [e2, List.eraseIdx_eq_take_drop_succ, Sm_app, Sm_cons, Sm_cons, Sm_nil]
  omega
theorem Sm_put {cs : List Int} {k : Nat} (hk : k < cs.length) (v t : Int) : Sm (cs.set k v) t + Sm [cs[k]] t = Sm cs t + Sm [v] t := by
  have e : cs.set k v = cs.take k ++ v :: cs.drop (k + 1) := by rw [List.set_eq_take_append_cons_drop, if_pos hk]
  have h := Sm_erase hk t
  rw [List.eraseIdx_eq_take_drop_succ, Sm_app] at h
  rw [e, Sm_app, Sm_cons, Sm_cons (c := v), Sm_nil]
  omega
theorem popP_ints {l : List Int} {k : Nat} (hk : k < l.length) (hl : l.length ≤ 1000) : popP (some (.own (.lst (l.map .int)))) (.int (k : Int)) = some (.int l[k], .own (.lst ((l.eraseIdx k).map .int))) := by
  unfold popP
  dsimp only
  rw [if_pos ⟨by omega, by unfold LIM; omega⟩, Int.toNat_natCast, List.getElem?_map, List.getElem?_eq_getElem hk]
  have : (l.map PV.int).eraseIdx k = (l.eraseIdx k).map .int := by
    rw [List.eraseIdx_eq_take_drop_succ, List.eraseIdx_eq_take_drop_succ, List.map_append, List.map_take, List.map_drop]
  rw [Option.map_some, Option.map_some, this]
theorem anyL_false {α : Type} (l : List α) : anyLP [.lst (l.map fun _ => PV.bl false)] = some (.bl false) := by
  have h : blsOf (l.map fun _ => PV.bl false) = some (l.map fun _ => false) := by
    rw [← blsOf_map (l.map fun _ => false), List.map_map]
    rfl
  show (blsOf (l.map fun _ => PV.bl false)).map (fun ns => PV.bl (ns.any id)) = _
  rw [h]
  simp
theorem nin01 {x : Int} (h : x = 0 ∨ x = 1) : ninP [.int x, .lst [.int 0, .int 1]] = some (.bl false) := by
  rcases h with rfl | rfl <;> rfl
theorem changed_6199 {a d : Int} {cs : List Int} (ha : 0 ≤ a) (hne : cs ≠ []) (hl : cs.length ≤ 12) (h1 : 0 < d) (h2 : d ≤ 12) (hc : ∀ c ∈ cs, 0 ≤ c ∧ c ≤ 10000000000000000000000000000000000000000000000000000000000) : ∃ a' : Int, 0 ≤ a' ∧
    g_law_changed_right_6199 [.own (.lst [.int a]), .fro (.tup (cs.map .int)), .fro (.int d)] = .ok (.fro (.bl true)) [.own (.lst [.int a']), .fro (.tup (cs.map .int)), .fro (.int d)] := by
  (unfold g_law_changed_right_6199 ir_law_changed_right_6199; rw [runFn_eq _ _ _ _ ⟨rfl, by decide, rfl⟩])
  have hl1 : 1 ≤ cs.length := by
    cases cs with
    | nil => exact absurd rfl hne
    | cons q l => simp
  have hc0 : ∀ c ∈ cs, 0 ≤ c := fun c h => (hc c h).1
  have hcl : cs.length ≤ 1000000 := by omega
  have hrl : rngOk (cs.length : Int) := rng_ok (by omega) (by omega)
  obtain ⟨r, m0, e0⟩ := most (cs := cs) (d := d) (by omega) h1 h2 fun c h => ⟨(hc c h).1, by have := (hc c h).2; omega⟩
  -- the things in another order
  obtain ⟨ρ1, ys, hcomp, a1, ds, rest, ha1, hys, hdl, hrl1, hds, hrs, hsm, rfl⟩ := compL_runI (f := cF ph_law_changed_right_6199 (.one 11) [11] [] el_law_changed_right_6199_1)
    (I := fun i done ρ => ∃ (a : Int) (ds rest : List Int), 0 ≤ a ∧ done = ds.map .int ∧ ds.length = i ∧ ds.length + rest.length = cs.length ∧ (∀ c ∈ ds, 0 ≤ c ∧ c ≤ 10000000000000000000000000000000000000000000000000000000000) ∧ (∀ c ∈ rest, 0 ≤ c ∧ c ≤ 10000000000000000000000000000000000000000000000000000000000) ∧ (∀ t, Sm ds t + Sm rest t = Sm cs t) ∧
      ρ = [some (.own (.lst [.int a])), some (.fro (.tup ((cs).map .int))), some (.fro (.int (d))), some (.fro (.int (r))), some (.own (.lst ((rest).map .int))), none, none, none, none, none, none, none, none])
    (xs := rngP 0 (cs.length : Int)) (ρ := [some (.own (.lst [.int a])), some (.fro (.tup ((cs).map .int))), some (.fro (.int (d))), some (.fro (.int (r))), some (.own (.lst ((cs).map .int))), none, none, none, none, none, none, none, none]) 0 []
    ⟨a, [], cs, ha, rfl, rfl, by simp, by simp, hc, fun t => by rw [Sm_nil]; omega, rfl⟩
    (fun i x done ρ hx hi => by
      obtain ⟨a, ds, rest, ha, rfl, hdl, hrl1, hds, hrs, hsm, rfl⟩ := hi
      obtain ⟨rfl, hi2⟩ := rngP_at hx
      obtain ⟨q, a', q0, q1, ha', e⟩ := take_9d40 (m := (rest.length : Int)) ha (by omega) (by omega)
      obtain ⟨k, rfl⟩ := Int.eq_ofNat_of_zero_le q0
      have hk : k < rest.length := by omega
      have p := popP_ints hk (by omega)
      have E : cF ph_law_changed_right_6199 (.one 11) [11] [] el_law_changed_right_6199_1 (.int (0 + (i : Int))) [some (.own (.lst [.int a])), some (.fro (.tup ((cs).map .int))), some (.fro (.int (d))), some (.fro (.int (r))), some (.own (.lst ((rest).map .int))), none, none, none, none, none, none, none, none] =
          .ok (some (.int rest[k])) [some (.own (.lst [.int a'])), some (.fro (.tup ((cs).map .int))), some (.fro (.int (d))), some (.fro (.int (r))), some (.own (.lst ((rest.eraseIdx k).map .int))), none, none, none, none, none, none, none, none] := by
        simp -implicitDefEqProofs [ioOk, Br.frameOf, lvsOf, Br.exSs_nil, Br.exSs_cons, SO.seq_nx, SO.seq_rt, SO.seq_ex, SO.seq_bk, SO.seq_ct, SO.seq_st, SO.fin_nx, SO.fin_rt, SO.fin_ex, Br.v_app, Br.v_mth, Br.v_tup, Br.v_lst, Br.v_cst, Br.v_dnew, Br.v_var, Br.v_call, Br.v_and, Br.v_or, Br.v_not, Br.v_ite, Br.v_chain, Br.v_sl2, Br.v_comp, Br.v_aref, Br.v_aval, Br.v_as0, Br.v_as, Br.v_es0, Br.v_es, Br.v_tand, Br.v_tor, Br.v_tnot, Br.v_te, Br.v_ts0, Br.v_ts1, Br.v_seq, Br.v_rng1, Br.v_rng2, Br.v_enum, Br.v_zip, Br.v_popE, Br.v_dispV, Br.l_dispV', Br.v_popL, Br.l_popE, Br.l_popL, Br.kPopE_eq, Br.putE_some, Br.putE_none, Br.v_rev, Br.l_app, Br.l_mth', Br.l_lst', Br.l_dnew', Br.l_call', Br.l_comp', Br.l_var, Br.l_cst, Br.l_tup, Br.l_and, Br.l_or, Br.l_not, Br.l_ite, Br.l_chain, Br.l_sl2, Br.x_set, Br.x_unp, Br.x_par, Br.x_setIx, Br.x_app, Br.x_ext, Br.x_popA, Br.x_insA, Br.kPopA, Br.kIns1, Br.kIns2, Br.x_ex, Br.x_ret, Br.x_retV, Br.x_retN, Br.x_if, Br.x_whl, Br.x_brk, Br.x_cont, Br.x_pass, Br.x_raise, Br.kOp, Br.kVal, Br.kCons, Br.kAs, Br.kConsE, Br.kEs, Br.kTup, Br.kLst, Br.kCall, Br.kMth2, Br.kMth, Br.kAnd, Br.kOr, Br.kNot, Br.kIte, Br.kCh4, Br.kCh3, Br.kCh2b, Br.kCh2, Br.kCh1, Br.kS3, Br.kS2, Br.kS1, Br.kC6, Br.kC5, Br.kC4, Br.kC3, Br.kC0, Br.kC2, Br.kC1, Br.kTand, Br.kTor, Br.kTnot, Br.kTe, Br.kSeq, Br.kR1, Br.kR3, Br.kR2, Br.kEn, Br.kZ2, Br.kZ1, Br.kRv, Br.kOwn, Br.kFro, Br.kOwnV, Br.kCallL, Br.kSet, Br.kUnp, Br.kPar, Br.kSI2, Br.kSI1, Br.kApp, Br.kExt, Br.kEx, Br.kRet, Br.kIf, Br.kFor, Br.ifE_t, Br.ifE_f, Br.ifS_t, Br.ifS_f, Br.okE_eq, Br.cF, Br.x_for, ne_eq, reduceCtorEq, not_false_eq_true, implies_true, ER.bind_ok, ER.bind_ex, ER.bind_st, ER.so_ok, ER.so_ex, ER.so_st, ER.of_some, ER.of_none, SO.of_some, SO.of_none, Br.bindS_k, Br.bindK_some, Br.bindK_none, Tg.bind, Tg.binds, at', setIxP, AV.pvs, AV.pv, AV.lvs, AV.lv, AV.refs, AV.back, maskL, LV.isFro, LV.pv, Br.callE_k, Br.callK0_some, Br.callK_ok, Br.callK_ex, froE, Br.opX_add, Br.opX_sub, Br.opX_mul, Br.opX_fdiv, Br.opX_mod, Br.opX_pow, Br.opX_neg, Br.opX_eq, Br.opX_ne, Br.opX_lt, Br.opX_le, Br.opX_gt, Br.opX_ge, Br.opX_isN, Br.opX_isNN, Br.opX_inn, Br.opX_nin, Br.opX_len, Br.opX_sum, Br.opX_abs, Br.opX_int1, Br.opX_str1, Br.opX_tuple1, Br.opX_list1, Br.opX_sorted, Br.opX_allL, Br.opX_anyL, Br.opX_min2, Br.opX_max2, Br.opX_minL, Br.opX_maxL, Br.opX_idx, Br.opX_rev, Br.opX_dget, Br.opX_values, Br.opX_dmod, Br.opX_lcnt, Br.opX_tcnt, Br.opX_lidx, Br.opX_bits, Br.opX_sortedD, Br.opX_minD, Br.opX_maxD, Br.opX_isB, Br.opX_isNB, Br.opX_isTy, Br.opX_slc, Br.opX_isEx, Br.opX_dict1, Br.opX_tupleX, Br.dn_non, Br.dn_bl, Br.dn_int, Br.dn_str, Br.dn_ty, Br.dn_exc, Br.dn_tup, Br.dn_xt, Br.dn_lst, Br.dn_dK, Br.dn_dT, Br.dn_dn, Br.isD_dn, Br.eqP_dnl, Br.eqP_dnr, tupleXP, opSem, addP, subP, mulP, fdivP, modP, powP, negP, eqOP, neOP, ltOP, leOP, gtOP, geOP, isNP, isNNP, isBP, isNBP, PV.isNon, lenP, sumP, absP, int1P, str1P, tuple1P, list1P, min2P, max2P, idxP, slcP, slcPart, dmodP, isTyOP, isTys, isTyP, tyName, ownV, Op.new, wipeE, Br.backE_nil, Br.backE_cons, Br.froO_f, Br.froO_n, Br.froO_0, Br.froO_o, seqOf, parE, ownL, keyP, recvOk, PV.isD, PV.isT, Br.eqP_ii, Br.eqP_ss, Br.eqP_bb, Br.eqP_nn, Br.eqP_tt, Br.eqP_ll, Br.eqPs_00, Br.eqPs_0c, Br.eqPs_c0, Br.eqPs_cc, Br.eqPs_ints, Br.eqP_xl, Br.eqP_xr, Br.eqP_ni, Br.eqP_ns, Br.eqP_nt, Br.eqP_nl, Br.eqP_nb, Br.eqP_in, Br.eqP_is, Br.eqP_it, Br.eqP_il, Br.eqP_sn, Br.eqP_si, Br.eqP_st, Br.eqP_sl, Br.eqP_sb, Br.eqP_tn, Br.eqP_ti, Br.eqP_ts, Br.eqP_tl, Br.eqP_tb, Br.eqP_ln, Br.eqP_li, Br.eqP_ls, Br.eqP_lt, Br.eqP_lb, Br.eqP_bn, Br.eqP_bs, Br.eqP_bt, Br.eqP_bl, intsOf, List.getElem?_cons_zero, List.getElem?_cons_succ, List.getElem?_nil, List.set_cons_zero, List.set_cons_succ, List.map_cons, List.map_nil, List.cons_append, List.nil_append, List.length_cons, List.length_nil, List.replicate_succ, List.replicate_zero, List.append_nil, Option.bind_some, Option.bind_none, Option.map_some, Option.map_none, if_true, if_false, ite_true, ite_false, decide_true, decide_false, Bool.and_true, Bool.true_and, Bool.not_true, Bool.not_false, reduceIte, Option.isSome_some, Br.kit_NoneType_int, Br.kit_NoneType_bool, Br.kit_NoneType_str, Br.kit_NoneType_tuple, Br.kit_NoneType_list, Br.kit_NoneType_dict, Br.kit_bool_int, Br.kit_bool_bool, Br.kit_bool_str, Br.kit_bool_tuple, Br.kit_bool_list, Br.kit_bool_dict, Br.kit_int_int, Br.kit_int_bool, Br.kit_int_str, Br.kit_int_tuple, Br.kit_int_list, Br.kit_int_dict, Br.kit_str_int, Br.kit_str_bool, Br.kit_str_str, Br.kit_str_tuple, Br.kit_str_list, Br.kit_str_dict, Br.kit_tuple_int, Br.kit_tuple_bool, Br.kit_tuple_str, Br.kit_tuple_tuple, Br.kit_tuple_list, Br.kit_tuple_dict, Br.kit_list_int, Br.kit_list_bool, Br.kit_list_str, Br.kit_list_tuple, Br.kit_list_list, Br.kit_list_dict, Br.kit_dict_int, Br.kit_dict_bool, Br.kit_dict_str, Br.kit_dict_tuple, Br.kit_dict_list, Br.kit_dict_dict, L2.ixN, Br.rng_ok, Br.mul_ok_r, Br.mul_ok_l, LIM, Br.PV.i_int, Br.log2_lt_9000, Br.atI_0, Br.atI_1, Br.atI_2, lcntP, lidxP, bitsP, revP, cntP, sortedDP, minDP, maxDP, sortX, Br.x_try, Br.tryK_nx, Br.tryK_rt, Br.tryK_bk, Br.tryK_ct, Br.suiteX_nx, Br.suiteX_bk, Br.suiteX_ct, Br.suiteX_rt, Br.setX_some, Br.setX_none, Br.goneX_some, Br.goneX_none, Br.x_lock, Br.kLock_d, Br.lockR_nx, Br.lockR_rt, Br.l_callT', Br.v_callT, Br.kT1, Br.kT2, Br.kT3, Br.kT4_eq, Br.dropT_ok, Br.dropT_ex, Br.dropT_st, Br.sh_val, Br.sh_ref, Br.kXt, Br.v_xtup, Br.l_xtup, Br.lockV_s, Br.thin_0, Br.thin_c, Br.thinO_n, Br.thinO_s, Br.thinL_f, Br.thinL_l, Br.thinL_d, Br.thinL_t, Br.noD_n, Br.noD_b, Br.noD_i, Br.noD_s, Br.noD_e, Br.noD_t, Br.noD_x, Br.noD_l, Br.noD_d, Br.noDs_0, Br.noDs_c, Br.noDs_i, el_law_changed_right_6199_1, ph_law_changed_right_6199, e, p]
      refine ⟨_, _, E, a', ds ++ [rest[k]], rest.eraseIdx k, ha', by simp, by simp; omega, ?_, fun c h => ?_, fun c h => hrs c (List.mem_of_mem_eraseIdx h), fun t => ?_, rfl⟩
      · rw [List.length_append, List.length_eraseIdx, if_pos hk, List.length_singleton]
        omega
      · rcases List.mem_append.mp h with h | h
        · exact hds c h
        · rw [List.mem_singleton.mp h]
          exact hrs _ (List.getElem_mem hk)
      · rw [Sm_app]
        have := Sm_erase hk t
        have := hsm t
        omega)
  rw [List.nil_append] at hys
  rw [rngP_len] at hdl
  have hre : rest = [] := List.eq_nil_of_length_eq_zero (by omega)
  subst hre
  have hsm' : ∀ t, Sm ds t = Sm cs t := fun t => by have := hsm t; rw [Sm_nil] at this; omega
  obtain ⟨r', m1, e1⟩ := most (cs := ds) (d := d) (by omega) h1 h2 fun c h => ⟨(hds c h).1, by have := (hds c h).2; omega⟩
  have hr' : r' = r := by
    refine m0.uniq hc0 m1.1 ?_ ?_
    · have := m1.2.1
      unfold good at *
      rw [← hsm']
      exact this
    · have := m1.2.2
      unfold good at *
      rw [← hsm']
      exact this
  subst hr'
  subst hys
  have hlen : ds.length = cs.length := by simpa using hrl1
  -- so many times as many
  obtain ⟨q, a2, q0, q1, ha2, e2⟩ := take_9d40 (m := 8) ha1 (by omega) (by omega)
  obtain ⟨M, hM⟩ : ∃ M, M = 2 + q := ⟨_, rfl⟩
  have hMn : M.natAbs < 18446744073709551616 := by omega
  obtain ⟨g, m2, e3⟩ := most (cs := cs.map fun c => M * c) (d := d) (by simpa using (by omega : cs.length ≤ 20)) h1 h2 fun c h => by
    obtain ⟨x, hx, rfl⟩ := List.mem_map.mp h
    have hb := hc x hx
    refine ⟨Int.mul_nonneg (by omega) hb.1, ?_⟩
    have : M * x ≤ 9 * x := Int.mul_le_mul_of_nonneg_right (by omega) hb.1
    omega
  obtain ⟨t1, t2⟩ := m0.times hc0 (show 0 < M by omega) m2
  have es2 : ((cs.map PV.int).map fun p => PV.int (M * p.i)) = (cs.map fun c => M * c).map .int := by
    rw [List.map_map, List.map_map]
    rfl
  -- one thing more
  obtain ⟨q2, a3, q20, q21, ha3, e4⟩ := take_9d40 (m := (cs.length : Int)) ha2 (by omega) (by omega)
  obtain ⟨k, rfl⟩ := Int.eq_ofNat_of_zero_le q20
  have hk : k < cs.length := by omega
  have at1 : L2.atI (cs.map PV.int) (k : Int) = some (.int cs[k]) := atI_n _ k _ (by simp [hk])
  obtain ⟨D, hD⟩ : ∃ D, D = cs.set k (cs[k] + 1) := ⟨_, rfl⟩
  have hDl : D.length = cs.length := by rw [hD, List.length_set]
  have hDc : ∀ c ∈ D, 0 ≤ c ∧ c ≤ 1000000000000000000000000000000000000000000000000000000000000 := fun c h => by
    rw [hD] at h
    rcases List.mem_or_eq_of_mem_set h with h | rfl
    · have := hc c h; omega
    · have := hc cs[k] (List.getElem_mem hk); omega
  obtain ⟨g2, m3, e5⟩ := most (cs := D) (d := d) (by omega) h1 h2 hDc
  have hDs : ∀ t, Sm cs t ≤ Sm D t ∧ Sm D t ≤ Sm cs t + 1 := fun t => by
    have := Sm_put hk (cs[k] + 1) t
    rw [← hD, Sm_cons, Sm_cons, Sm_nil] at this
    split at this <;> split at this <;> omega
  have h01 := nin01 (m0.one hc0 (fun c h => (hDc c h).1) (fun t => (hDs t).1) (fun t => (hDs t).2) m3)
  have c1 := cut_setL (L := cs) (cs[k] + 1) hk
  rw [← hD] at c1
  have z1 := cut_lenL hk
  have z2 := congrArg List.length c1
  rw [List.length_append, List.length_cons, List.length_map, hDl, z1] at z2
  obtain ⟨m, hm⟩ : ∃ m, m = (cutP (cs.map PV.int) (some ((k : Int) + 1)) none).length := ⟨_, rfl⟩
  have hrp : (rngP 0 (cs.length : Int)).length ≤ 1000000 := by rw [rngP_len]; omega
  have z3 : k ≤ 999999 := by omega
  have z4 : k + 1 + m ≤ 1000000 := by omega
  have z5 : k + (m + 1) ≤ 1000000 := by omega
  -- fewer by greater d
  have hF0 : ∀ j : Nat, ∃ f : Int, j < 12 → IsM cs ((j : Int) + 1) f ∧ g_most_bins_52e0 [.fro (.tup (cs.map .int)), .fro (.int ((j : Int) + 1))] = .ok (.fro (.int f)) [.fro (.tup (cs.map .int)), .fro (.int ((j : Int) + 1))] := fun j => by
    by_cases hj : j < 12
    · obtain ⟨f, h1, h2⟩ := most (cs := cs) (d := (j : Int) + 1) (by omega) (by omega) (by omega) fun c h => ⟨(hc c h).1, by have := (hc c h).2; omega⟩
      exact ⟨f, fun _ => ⟨h1, h2⟩⟩
    · exact ⟨0, fun h => absurd h hj⟩
  obtain ⟨F, hF⟩ := Classical.axiomOfChoice hF0
  obtain ⟨L9, hL9⟩ : ∃ L9, L9 = (List.range 12).map fun j => PV.int (F j) := ⟨_, rfl⟩
  have l9 : L9.length = 12 := by rw [hL9]; simp
  have es9 : ((rngP 1 13).map fun p => PV.int (F (p.i - 1).toNat)) = L9 := by
    rw [hL9]
    unfold rngP
    rw [List.map_map]
    refine List.map_congr_left fun j _ => ?_
    show PV.int (F (1 + (j : Int) - 1).toNat) = PV.int (F j)
    rw [show (1 + (j : Int) - 1).toNat = j by omega]
  have at9 : ∀ j : Nat, j < 12 → L2.atI L9 (j : Int) = some (.int (F j)) := fun j hj => atI_n _ j _ (by rw [hL9]; simp [hj])
  have f0 : F 0 = cs.sum := (show IsM cs 1 (F 0) from (hF 0 (by omega)).1).first hc0
  obtain ⟨mx, hmx, hm1, hm3⟩ := maxT_ints hne
  have f1 : F 1 = if cs.sum - mx < cs.sum / 2 then cs.sum - mx else cs.sum / 2 := (show IsM cs 2 (F 1) from (hF 1 (by omega)).1).second hc0 hm1 hm3
  have at90 : L2.atI L9 0 = some (.int (F 0)) := at9 0 (by omega)
  have at91 : L2.atI L9 1 = some (.int (F 1)) := at9 1 (by omega)
  have hr13 : rngOk 13 := rng_ok (by omega) (by omega)
  have hr11 : rngOk 11 := rng_ok (by omega) (by omega)
  have hr1 : rngOk 1 := rng_ok (by omega) (by omega)
  have hl13 : (rngP 1 13).length ≤ 1000000 := by rw [rngP_len]; decide
  have hl11 : (rngP 0 11).length ≤ 1000000 := by rw [rngP_len]; decide
  have hcut : (cutP L9 (some (cs.length : Int)) none).length ≤ 1000000 := by
    unfold cutP
    simp only [List.length_take, List.length_drop, l9]
    omega
  have hnone : ∀ x ∈ cutP L9 (some (cs.length : Int)) none, x = .int 0 := fun x hx => by
    unfold cutP at hx
    have hx := List.mem_of_mem_take hx
    rw [HT.sIx_nat, l9, show min cs.length 12 = cs.length by omega] at hx
    obtain ⟨j, hj, rfl⟩ := List.getElem_of_mem hx
    rw [List.length_drop, l9] at hj
    have hj2 : cs.length + j < 12 := by omega
    have : (L9.drop cs.length)[j] = PV.int (F (cs.length + j)) := by
      simp only [hL9, List.getElem_drop, List.getElem_map, List.getElem_range]
    rw [this, (hF (cs.length + j) hj2).1.none (by omega)]
  have any1 : ∀ (a : Int), ∀ x ∈ rngP 0 11, cF ph_law_changed_right_6199 (.one 11) [11] [] el_law_changed_right_6199_4 x [some (.own (.lst [.int a])), some (.fro (.tup ((cs).map .int))), some (.fro (.int (d))), some (.fro (.int (r'))), some (.own (.lst [])), some (.fro (.tup ((ds).map .int))), some (.fro (.int (M))), some (.fro (.int (g))), some (.fro (.int ((k : Int)))), some (.own (.lst L9)), none, none, none] =
      .ok (some (.bl false)) [some (.own (.lst [.int a])), some (.fro (.tup ((cs).map .int))), some (.fro (.int (d))), some (.fro (.int (r'))), some (.own (.lst [])), some (.fro (.tup ((ds).map .int))), some (.fro (.int (M))), some (.fro (.int (g))), some (.fro (.int ((k : Int)))), some (.own (.lst L9)), none, none, none] := fun a x hx => by
    obtain ⟨i, rfl, hi0, hi1⟩ := rngP_mem hx
    obtain ⟨j, rfl⟩ := Int.eq_ofNat_of_zero_le hi0
    have b1 := at9 j (by omega)
    have b2 : L2.atI L9 ((j : Int) + 1) = some (.int (F (j + 1))) := at9 (j + 1) (by omega)
    have b3 : F (j + 1) ≤ F j := (hF j (by omega)).1.lower hc0 (by
      have := (hF (j + 1) (by omega)).1
      rw [show ((j + 1 : Nat) : Int) + 1 = (j : Int) + 1 + 1 by omega] at this
      exact this)
    have b4 : ¬ F j < F (j + 1) := by omega
    simp -implicitDefEqProofs [ioOk, Br.frameOf, lvsOf, Br.exSs_nil, Br.exSs_cons, SO.seq_nx, SO.seq_rt, SO.seq_ex, SO.seq_bk, SO.seq_ct, SO.seq_st, SO.fin_nx, SO.fin_rt, SO.fin_ex, Br.v_app, Br.v_mth, Br.v_tup, Br.v_lst, Br.v_cst, Br.v_dnew, Br.v_var, Br.v_call, Br.v_and, Br.v_or, Br.v_not, Br.v_ite, Br.v_chain, Br.v_sl2, Br.v_comp, Br.v_aref, Br.v_aval, Br.v_as0, Br.v_as, Br.v_es0, Br.v_es, Br.v_tand, Br.v_tor, Br.v_tnot, Br.v_te, Br.v_ts0, Br.v_ts1, Br.v_seq, Br.v_rng1, Br.v_rng2, Br.v_enum, Br.v_zip, Br.v_popE, Br.v_dispV, Br.l_dispV', Br.v_popL, Br.l_popE, Br.l_popL, Br.kPopE_eq, Br.putE_some, Br.putE_none, Br.v_rev, Br.l_app, Br.l_mth', Br.l_lst', Br.l_dnew', Br.l_call', Br.l_comp', Br.l_var, Br.l_cst, Br.l_tup, Br.l_and, Br.l_or, Br.l_not, Br.l_ite, Br.l_chain, Br.l_sl2, Br.x_set, Br.x_unp, Br.x_par, Br.x_setIx, Br.x_app, Br.x_ext, Br.x_popA, Br.x_insA, Br.kPopA, Br.kIns1, Br.kIns2, Br.x_ex, Br.x_ret, Br.x_retV, Br.x_retN, Br.x_if, Br.x_whl, Br.x_brk, Br.x_cont, Br.x_pass, Br.x_raise, Br.kOp, Br.kVal, Br.kCons, Br.kAs, Br.kConsE, Br.kEs, Br.kTup, Br.kLst, Br.kCall, Br.kMth2, Br.kMth, Br.kAnd, Br.kOr, Br.kNot, Br.kIte, Br.kCh4, Br.kCh3, Br.kCh2b, Br.kCh2, Br.kCh1, Br.kS3, Br.kS2, Br.kS1, Br.kC6, Br.kC5, Br.kC4, Br.kC3, Br.kC0, Br.kC2, Br.kC1, Br.kTand, Br.kTor, Br.kTnot, Br.kTe, Br.kSeq, Br.kR1, Br.kR3, Br.kR2, Br.kEn, Br.kZ2, Br.kZ1, Br.kRv, Br.kOwn, Br.kFro, Br.kOwnV, Br.kCallL, Br.kSet, Br.kUnp, Br.kPar, Br.kSI2, Br.kSI1, Br.kApp, Br.kExt, Br.kEx, Br.kRet, Br.kIf, Br.kFor, Br.ifE_t, Br.ifE_f, Br.ifS_t, Br.ifS_f, Br.okE_eq, Br.cF, Br.x_for, ne_eq, reduceCtorEq, not_false_eq_true, implies_true, ER.bind_ok, ER.bind_ex, ER.bind_st, ER.so_ok, ER.so_ex, ER.so_st, ER.of_some, ER.of_none, SO.of_some, SO.of_none, Br.bindS_k, Br.bindK_some, Br.bindK_none, Tg.bind, Tg.binds, at', setIxP, AV.pvs, AV.pv, AV.lvs, AV.lv, AV.refs, AV.back, maskL, LV.isFro, LV.pv, Br.callE_k, Br.callK0_some, Br.callK_ok, Br.callK_ex, froE, Br.opX_add, Br.opX_sub, Br.opX_mul, Br.opX_fdiv, Br.opX_mod, Br.opX_pow, Br.opX_neg, Br.opX_eq, Br.opX_ne, Br.opX_lt, Br.opX_le, Br.opX_gt, Br.opX_ge, Br.opX_isN, Br.opX_isNN, Br.opX_inn, Br.opX_nin, Br.opX_len, Br.opX_sum, Br.opX_abs, Br.opX_int1, Br.opX_str1, Br.opX_tuple1, Br.opX_list1, Br.opX_sorted, Br.opX_allL, Br.opX_anyL, Br.opX_min2, Br.opX_max2, Br.opX_minL, Br.opX_maxL, Br.opX_idx, Br.opX_rev, Br.opX_dget, Br.opX_values, Br.opX_dmod, Br.opX_lcnt, Br.opX_tcnt, Br.opX_lidx, Br.opX_bits, Br.opX_sortedD, Br.opX_minD, Br.opX_maxD, Br.opX_isB, Br.opX_isNB, Br.opX_isTy, Br.opX_slc, Br.opX_isEx, Br.opX_dict1, Br.opX_tupleX, Br.dn_non, Br.dn_bl, Br.dn_int, Br.dn_str, Br.dn_ty, Br.dn_exc, Br.dn_tup, Br.dn_xt, Br.dn_lst, Br.dn_dK, Br.dn_dT, Br.dn_dn, Br.isD_dn, Br.eqP_dnl, Br.eqP_dnr, tupleXP, opSem, addP, subP, mulP, fdivP, modP, powP, negP, eqOP, neOP, ltOP, leOP, gtOP, geOP, isNP, isNNP, isBP, isNBP, PV.isNon, lenP, sumP, absP, int1P, str1P, tuple1P, list1P, min2P, max2P, idxP, slcP, slcPart, dmodP, isTyOP, isTys, isTyP, tyName, ownV, Op.new, wipeE, Br.backE_nil, Br.backE_cons, Br.froO_f, Br.froO_n, Br.froO_0, Br.froO_o, seqOf, parE, ownL, keyP, recvOk, PV.isD, PV.isT, Br.eqP_ii, Br.eqP_ss, Br.eqP_bb, Br.eqP_nn, Br.eqP_tt, Br.eqP_ll, Br.eqPs_00, Br.eqPs_0c, Br.eqPs_c0, Br.eqPs_cc, Br.eqPs_ints, Br.eqP_xl, Br.eqP_xr, Br.eqP_ni, Br.eqP_ns, Br.eqP_nt, Br.eqP_nl, Br.eqP_nb, Br.eqP_in, Br.eqP_is, Br.eqP_it, Br.eqP_il, Br.eqP_sn, Br.eqP_si, Br.eqP_st, Br.eqP_sl, Br.eqP_sb, Br.eqP_tn, Br.eqP_ti, Br.eqP_ts, Br.eqP_tl, Br.eqP_tb, Br.eqP_ln, Br.eqP_li, Br.eqP_ls, Br.eqP_lt, Br.eqP_lb, Br.eqP_bn, Br.eqP_bs, Br.eqP_bt, Br.eqP_bl, intsOf, List.getElem?_cons_zero, List.getElem?_cons_succ, List.getElem?_nil, List.set_cons_zero, List.set_cons_succ, List.map_cons, List.map_nil, List.cons_append, List.nil_append, List.length_cons, List.length_nil, List.replicate_succ, List.replicate_zero, List.append_nil, Option.bind_some, Option.bind_none, Option.map_some, Option.map_none, if_true, if_false, ite_true, ite_false, decide_true, decide_false, Bool.and_true, Bool.true_and, Bool.not_true, Bool.not_false, reduceIte, Option.isSome_some, Br.kit_NoneType_int, Br.kit_NoneType_bool, Br.kit_NoneType_str, Br.kit_NoneType_tuple, Br.kit_NoneType_list, Br.kit_NoneType_dict, Br.kit_bool_int, Br.kit_bool_bool, Br.kit_bool_str, Br.kit_bool_tuple, Br.kit_bool_list, Br.kit_bool_dict, Br.kit_int_int, Br.kit_int_bool, Br.kit_int_str, Br.kit_int_tuple, Br.kit_int_list, Br.kit_int_dict, Br.kit_str_int, Br.kit_str_bool, Br.kit_str_str, Br.kit_str_tuple, Br.kit_str_list, Br.kit_str_dict, Br.kit_tuple_int, Br.kit_tuple_bool, Br.kit_tuple_str, Br.kit_tuple_tuple, Br.kit_tuple_list, Br.kit_tuple_dict, Br.kit_list_int, Br.kit_list_bool, Br.kit_list_str, Br.kit_list_tuple, Br.kit_list_list, Br.kit_list_dict, Br.kit_dict_int, Br.kit_dict_bool, Br.kit_dict_str, Br.kit_dict_tuple, Br.kit_dict_list, Br.kit_dict_dict, L2.ixN, Br.rng_ok, Br.mul_ok_r, Br.mul_ok_l, LIM, Br.PV.i_int, Br.log2_lt_9000, Br.atI_0, Br.atI_1, Br.atI_2, lcntP, lidxP, bitsP, revP, cntP, sortedDP, minDP, maxDP, sortX, Br.x_try, Br.tryK_nx, Br.tryK_rt, Br.tryK_bk, Br.tryK_ct, Br.suiteX_nx, Br.suiteX_bk, Br.suiteX_ct, Br.suiteX_rt, Br.setX_some, Br.setX_none, Br.goneX_some, Br.goneX_none, Br.x_lock, Br.kLock_d, Br.lockR_nx, Br.lockR_rt, Br.l_callT', Br.v_callT, Br.kT1, Br.kT2, Br.kT3, Br.kT4_eq, Br.dropT_ok, Br.dropT_ex, Br.dropT_st, Br.sh_val, Br.sh_ref, Br.kXt, Br.v_xtup, Br.l_xtup, Br.lockV_s, Br.thin_0, Br.thin_c, Br.thinO_n, Br.thinO_s, Br.thinL_f, Br.thinL_l, Br.thinL_d, Br.thinL_t, Br.noD_n, Br.noD_b, Br.noD_i, Br.noD_s, Br.noD_e, Br.noD_t, Br.noD_x, Br.noD_l, Br.noD_d, Br.noDs_0, Br.noDs_c, Br.noDs_i, el_law_changed_right_6199_4, b1, b2, b4]
  have any2 : ∀ (a : Int), ∀ x ∈ cutP L9 (some (cs.length : Int)) none, cF ph_law_changed_right_6199 (.one 10) [10] [] el_law_changed_right_6199_5 x [some (.own (.lst [.int a])), some (.fro (.tup ((cs).map .int))), some (.fro (.int (d))), some (.fro (.int (r'))), some (.own (.lst [])), some (.fro (.tup ((ds).map .int))), some (.fro (.int (M))), some (.fro (.int (g))), some (.fro (.int ((k : Int)))), some (.own (.lst L9)), none, none, none] =
      .ok (some (.bl false)) [some (.own (.lst [.int a])), some (.fro (.tup ((cs).map .int))), some (.fro (.int (d))), some (.fro (.int (r'))), some (.own (.lst [])), some (.fro (.tup ((ds).map .int))), some (.fro (.int (M))), some (.fro (.int (g))), some (.fro (.int ((k : Int)))), some (.own (.lst L9)), none, none, none] := fun a x hx => by
    rw [hnone x hx]
    simp -implicitDefEqProofs [ioOk, Br.frameOf, lvsOf, Br.exSs_nil, Br.exSs_cons, SO.seq_nx, SO.seq_rt, SO.seq_ex, SO.seq_bk, SO.seq_ct, SO.seq_st, SO.fin_nx, SO.fin_rt, SO.fin_ex, Br.v_app, Br.v_mth, Br.v_tup, Br.v_lst, Br.v_cst, Br.v_dnew, Br.v_var, Br.v_call, Br.v_and, Br.v_or, Br.v_not, Br.v_ite, Br.v_chain, Br.v_sl2, Br.v_comp, Br.v_aref, Br.v_aval, Br.v_as0, Br.v_as, Br.v_es0, Br.v_es, Br.v_tand, Br.v_tor, Br.v_tnot, Br.v_te, Br.v_ts0, Br.v_ts1, Br.v_seq, Br.v_rng1, Br.v_rng2, Br.v_enum, Br.v_zip, Br.v_popE, Br.v_dispV, Br.l_dispV', Br.v_popL, Br.l_popE, Br.l_popL, Br.kPopE_eq, Br.putE_some, Br.putE_none, Br.v_rev, Br.l_app, Br.l_mth', Br.l_lst', Br.l_dnew', Br.l_call', Br.l_comp', Br.l_var, Br.l_cst, Br.l_tup, Br.l_and, Br.l_or, Br.l_not, Br.l_ite, Br.l_chain, Br.l_sl2, Br.x_set, Br.x_unp, Br.x_par, Br.x_setIx, Br.x_app, Br.x_ext, Br.x_popA, Br.x_insA, Br.kPopA, Br.kIns1, Br.kIns2, Br.x_ex, Br.x_ret, Br.x_retV, Br.x_retN, Br.x_if, Br.x_whl, Br.x_brk, Br.x_cont, Br.x_pass, Br.x_raise, Br.kOp, Br.kVal, Br.kCons, Br.kAs, Br.kConsE, Br.kEs, Br.kTup, Br.kLst, Br.kCall, Br.kMth2, Br.kMth, Br.kAnd, Br.kOr, Br.kNot, Br.kIte, Br.kCh4, Br.kCh3, Br.kCh2b, Br.kCh2, Br.kCh1, Br.kS3, Br.kS2, Br.kS1, Br.kC6, Br.kC5, Br.kC4, Br.kC3, Br.kC0, Br.kC2, Br.kC1, Br.kTand, Br.kTor, Br.kTnot, Br.kTe, Br.kSeq, Br.kR1, Br.kR3, Br.kR2, Br.kEn, Br.kZ2, Br.kZ1, Br.kRv, Br.kOwn, Br.kFro, Br.kOwnV, Br.kCallL, Br.kSet, Br.kUnp, Br.kPar, Br.kSI2, Br.kSI1, Br.kApp, Br.kExt, Br.kEx, Br.kRet, Br.kIf, Br.kFor, Br.ifE_t, Br.ifE_f, Br.ifS_t, Br.ifS_f, Br.okE_eq, Br.cF, Br.x_for, ne_eq, reduceCtorEq, not_false_eq_true, implies_true, ER.bind_ok, ER.bind_ex, ER.bind_st, ER.so_ok, ER.so_ex, ER.so_st, ER.of_some, ER.of_none, SO.of_some, SO.of_none, Br.bindS_k, Br.bindK_some, Br.bindK_none, Tg.bind, Tg.binds, at', setIxP, AV.pvs, AV.pv, AV.lvs, AV.lv, AV.refs, AV.back, maskL, LV.isFro, LV.pv, Br.callE_k, Br.callK0_some, Br.callK_ok, Br.callK_ex, froE, Br.opX_add, Br.opX_sub, Br.opX_mul, Br.opX_fdiv, Br.opX_mod, Br.opX_pow, Br.opX_neg, Br.opX_eq, Br.opX_ne, Br.opX_lt, Br.opX_le, Br.opX_gt, Br.opX_ge, Br.opX_isN, Br.opX_isNN, Br.opX_inn, Br.opX_nin, Br.opX_len, Br.opX_sum, Br.opX_abs, Br.opX_int1, Br.opX_str1, Br.opX_tuple1, Br.opX_list1, Br.opX_sorted, Br.opX_allL, Br.opX_anyL, Br.opX_min2, Br.opX_max2, Br.opX_minL, Br.opX_maxL, Br.opX_idx, Br.opX_rev, Br.opX_dget, Br.opX_values, Br.opX_dmod, Br.opX_lcnt, Br.opX_tcnt, Br.opX_lidx, Br.opX_bits, Br.opX_sortedD, Br.opX_minD, Br.opX_maxD, Br.opX_isB, Br.opX_isNB, Br.opX_isTy, Br.opX_slc, Br.opX_isEx, Br.opX_dict1, Br.opX_tupleX, Br.dn_non, Br.dn_bl, Br.dn_int, Br.dn_str, Br.dn_ty, Br.dn_exc, Br.dn_tup, Br.dn_xt, Br.dn_lst, Br.dn_dK, Br.dn_dT, Br.dn_dn, Br.isD_dn, Br.eqP_dnl, Br.eqP_dnr, tupleXP, opSem, addP, subP, mulP, fdivP, modP, powP, negP, eqOP, neOP, ltOP, leOP, gtOP, geOP, isNP, isNNP, isBP, isNBP, PV.isNon, lenP, sumP, absP, int1P, str1P, tuple1P, list1P, min2P, max2P, idxP, slcP, slcPart, dmodP, isTyOP, isTys, isTyP, tyName, ownV, Op.new, wipeE, Br.backE_nil, Br.backE_cons, Br.froO_f, Br.froO_n, Br.froO_0, Br.froO_o, seqOf, parE, ownL, keyP, recvOk, PV.isD, PV.isT, Br.eqP_ii, Br.eqP_ss, Br.eqP_bb, Br.eqP_nn, Br.eqP_tt, Br.eqP_ll, Br.eqPs_00, Br.eqPs_0c, Br.eqPs_c0, Br.eqPs_cc, Br.eqPs_ints, Br.eqP_xl, Br.eqP_xr, Br.eqP_ni, Br.eqP_ns, Br.eqP_nt, Br.eqP_nl, Br.eqP_nb, Br.eqP_in, Br.eqP_is, Br.eqP_it, Br.eqP_il, Br.eqP_sn, Br.eqP_si, Br.eqP_st, Br.eqP_sl, Br.eqP_sb, Br.eqP_tn, Br.eqP_ti, Br.eqP_ts, Br.eqP_tl, Br.eqP_tb, Br.eqP_ln, Br.eqP_li, Br.eqP_ls, Br.eqP_lt, Br.eqP_lb, Br.eqP_bn, Br.eqP_bs, Br.eqP_bt, Br.eqP_bl, intsOf, List.getElem?_cons_zero, List.getElem?_cons_succ, List.getElem?_nil, List.set_cons_zero, List.set_cons_succ, List.map_cons, List.map_nil, List.cons_append, List.nil_append, List.length_cons, List.length_nil, List.replicate_succ, List.replicate_zero, List.append_nil, Option.bind_some, Option.bind_none, Option.map_some, Option.map_none, if_true, if_false, ite_true, ite_false, decide_true, decide_false, Bool.and_true, Bool.true_and, Bool.not_true, Bool.not_false, reduceIte, Option.isSome_some, Br.kit_NoneType_int, Br.kit_NoneType_bool, Br.kit_NoneType_str, Br.kit_NoneType_tuple, Br.kit_NoneType_list, Br.kit_NoneType_dict, Br.kit_bool_int, Br.kit_bool_bool, Br.kit_bool_str, Br.kit_bool_tuple, Br.kit_bool_list, Br.kit_bool_dict, Br.kit_int_int, Br.kit_int_bool, Br.kit_int_str, Br.kit_int_tuple, Br.kit_int_list, Br.kit_int_dict, Br.kit_str_int, Br.kit_str_bool, Br.kit_str_str, Br.kit_str_tuple, Br.kit_str_list, Br.kit_str_dict, Br.kit_tuple_int, Br.kit_tuple_bool, Br.kit_tuple_str, Br.kit_tuple_tuple, Br.kit_tuple_list, Br.kit_tuple_dict, Br.kit_list_int, Br.kit_list_bool, Br.kit_list_str, Br.kit_list_tuple, Br.kit_list_list, Br.kit_list_dict, Br.kit_dict_int, Br.kit_dict_bool, Br.kit_dict_str, Br.kit_dict_tuple, Br.kit_dict_list, Br.kit_dict_dict, L2.ixN, Br.rng_ok, Br.mul_ok_r, Br.mul_ok_l, LIM, Br.PV.i_int, Br.log2_lt_9000, Br.atI_0, Br.atI_1, Br.atI_2, lcntP, lidxP, bitsP, revP, cntP, sortedDP, minDP, maxDP, sortX, Br.x_try, Br.tryK_nx, Br.tryK_rt, Br.tryK_bk, Br.tryK_ct, Br.suiteX_nx, Br.suiteX_bk, Br.suiteX_ct, Br.suiteX_rt, Br.setX_some, Br.setX_none, Br.goneX_some, Br.goneX_none, Br.x_lock, Br.kLock_d, Br.lockR_nx, Br.lockR_rt, Br.l_callT', Br.v_callT, Br.kT1, Br.kT2, Br.kT3, Br.kT4_eq, Br.dropT_ok, Br.dropT_ex, Br.dropT_st, Br.sh_val, Br.sh_ref, Br.kXt, Br.v_xtup, Br.l_xtup, Br.lockV_s, Br.thin_0, Br.thin_c, Br.thinO_n, Br.thinO_s, Br.thinL_f, Br.thinL_l, Br.thinL_d, Br.thinL_t, Br.noD_n, Br.noD_b, Br.noD_i, Br.noD_s, Br.noD_e, Br.noD_t, Br.noD_x, Br.noD_l, Br.noD_d, Br.noDs_0, Br.noDs_c, Br.noDs_i, el_law_changed_right_6199_5]
  have few : ∀ (a : Int), ∀ x ∈ rngP 1 13, cF ph_law_changed_right_6199 (.one 10) [10] [] el_law_changed_right_6199_3 x [some (.own (.lst [.int a])), some (.fro (.tup ((cs).map .int))), some (.fro (.int (d))), some (.fro (.int (r'))), some (.own (.lst [])), some (.fro (.tup ((ds).map .int))), some (.fro (.int (M))), some (.fro (.int (g))), some (.fro (.int ((k : Int)))), none, none, none, none] =
      .ok (some (.int (F (x.i - 1).toNat))) [some (.own (.lst [.int a])), some (.fro (.tup ((cs).map .int))), some (.fro (.int (d))), some (.fro (.int (r'))), some (.own (.lst [])), some (.fro (.tup ((ds).map .int))), some (.fro (.int (M))), some (.fro (.int (g))), some (.fro (.int ((k : Int)))), none, none, none, none] := fun a x hx => by
    obtain ⟨i, rfl, hi0, hi1⟩ := rngP_mem hx
    obtain ⟨j, rfl⟩ : ∃ j : Nat, i = (j : Int) + 1 := ⟨(i - 1).toNat, by omega⟩
    have b1 := (hF j (by omega)).2
    have b2 : ((j : Int) + 1 - 1).toNat = j := by omega
    simp -implicitDefEqProofs [ioOk, Br.frameOf, lvsOf, Br.exSs_nil, Br.exSs_cons, SO.seq_nx, SO.seq_rt, SO.seq_ex, SO.seq_bk, SO.seq_ct, SO.seq_st, SO.fin_nx, SO.fin_rt, SO.fin_ex, Br.v_app, Br.v_mth, Br.v_tup, Br.v_lst, Br.v_cst, Br.v_dnew, Br.v_var, Br.v_call, Br.v_and, Br.v_or, Br.v_not, Br.v_ite, Br.v_chain, Br.v_sl2, Br.v_comp, Br.v_aref, Br.v_aval, Br.v_as0, Br.v_as, Br.v_es0, Br.v_es, Br.v_tand, Br.v_tor, Br.v_tnot, Br.v_te, Br.v_ts0, Br.v_ts1, Br.v_seq, Br.v_rng1, Br.v_rng2, Br.v_enum, Br.v_zip, Br.v_popE, Br.v_dispV, Br.l_dispV', Br.v_popL, Br.l_popE, Br.l_popL, Br.kPopE_eq, Br.putE_some, Br.putE_none, Br.v_rev, Br.l_app, Br.l_mth', Br.l_lst', Br.l_dnew', Br.l_call', Br.l_comp', Br.l_var, Br.l_cst, Br.l_tup, Br.l_and, Br.l_or, Br.l_not, Br.l_ite, Br.l_chain, Br.l_sl2, Br.x_set, Br.x_unp, Br.x_par, Br.x_setIx, Br.x_app, Br.x_ext, Br.x_popA, Br.x_insA, Br.kPopA, Br.kIns1, Br.kIns2, Br.x_ex, Br.x_ret, Br.x_retV, Br.x_retN, Br.x_if, Br.x_whl, Br.x_brk, Br.x_cont, Br.x_pass, Br.x_raise, Br.kOp, Br.kVal, Br.kCons, Br.kAs, Br.kConsE, Br.kEs, Br.kTup, Br.kLst, Br.kCall, Br.kMth2, Br.kMth, Br.kAnd, Br.kOr, Br.kNot, Br.kIte, Br.kCh4, Br.kCh3, Br.kCh2b, Br.kCh2, Br.kCh1, Br.kS3, Br.kS2, Br.kS1, Br.kC6, Br.kC5, Br.kC4, Br.kC3, Br.kC0, Br.kC2, Br.kC1, Br.kTand, Br.kTor, Br.kTnot, Br.kTe, Br.kSeq, Br.kR1, Br.kR3, Br.kR2, Br.kEn, Br.kZ2, Br.kZ1, Br.kRv, Br.kOwn, Br.kFro, Br.kOwnV, Br.kCallL, Br.kSet, Br.kUnp, Br.kPar, Br.kSI2, Br.kSI1, Br.kApp, Br.kExt, Br.kEx, Br.kRet, Br.kIf, Br.kFor, Br.ifE_t, Br.ifE_f, Br.ifS_t, Br.ifS_f, Br.okE_eq, Br.cF, Br.x_for, ne_eq, reduceCtorEq, not_false_eq_true, implies_true, ER.bind_ok, ER.bind_ex, ER.bind_st, ER.so_ok, ER.so_ex, ER.so_st, ER.of_some, ER.of_none, SO.of_some, SO.of_none, Br.bindS_k, Br.bindK_some, Br.bindK_none, Tg.bind, Tg.binds, at', setIxP, AV.pvs, AV.pv, AV.lvs, AV.lv, AV.refs, AV.back, maskL, LV.isFro, LV.pv, Br.callE_k, Br.callK0_some, Br.callK_ok, Br.callK_ex, froE, Br.opX_add, Br.opX_sub, Br.opX_mul, Br.opX_fdiv, Br.opX_mod, Br.opX_pow, Br.opX_neg, Br.opX_eq, Br.opX_ne, Br.opX_lt, Br.opX_le, Br.opX_gt, Br.opX_ge, Br.opX_isN, Br.opX_isNN, Br.opX_inn, Br.opX_nin, Br.opX_len, Br.opX_sum, Br.opX_abs, Br.opX_int1, Br.opX_str1, Br.opX_tuple1, Br.opX_list1, Br.opX_sorted, Br.opX_allL, Br.opX_anyL, Br.opX_min2, Br.opX_max2, Br.opX_minL, Br.opX_maxL, Br.opX_idx, Br.opX_rev, Br.opX_dget, Br.opX_values, Br.opX_dmod, Br.opX_lcnt, Br.opX_tcnt, Br.opX_lidx, Br.opX_bits, Br.opX_sortedD, Br.opX_minD, Br.opX_maxD, Br.opX_isB, Br.opX_isNB, Br.opX_isTy, Br.opX_slc, Br.opX_isEx, Br.opX_dict1, Br.opX_tupleX, Br.dn_non, Br.dn_bl, Br.dn_int, Br.dn_str, Br.dn_ty, Br.dn_exc, Br.dn_tup, Br.dn_xt, Br.dn_lst, Br.dn_dK, Br.dn_dT, Br.dn_dn, Br.isD_dn, Br.eqP_dnl, Br.eqP_dnr, tupleXP, opSem, addP, subP, mulP, fdivP, modP, powP, negP, eqOP, neOP, ltOP, leOP, gtOP, geOP, isNP, isNNP, isBP, isNBP, PV.isNon, lenP, sumP, absP, int1P, str1P, tuple1P, list1P, min2P, max2P, idxP, slcP, slcPart, dmodP, isTyOP, isTys, isTyP, tyName, ownV, Op.new, wipeE, Br.backE_nil, Br.backE_cons, Br.froO_f, Br.froO_n, Br.froO_0, Br.froO_o, seqOf, parE, ownL, keyP, recvOk, PV.isD, PV.isT, Br.eqP_ii, Br.eqP_ss, Br.eqP_bb, Br.eqP_nn, Br.eqP_tt, Br.eqP_ll, Br.eqPs_00, Br.eqPs_0c, Br.eqPs_c0, Br.eqPs_cc, Br.eqPs_ints, Br.eqP_xl, Br.eqP_xr, Br.eqP_ni, Br.eqP_ns, Br.eqP_nt, Br.eqP_nl, Br.eqP_nb, Br.eqP_in, Br.eqP_is, Br.eqP_it, Br.eqP_il, Br.eqP_sn, Br.eqP_si, Br.eqP_st, Br.eqP_sl, Br.eqP_sb, Br.eqP_tn, Br.eqP_ti, Br.eqP_ts, Br.eqP_tl, Br.eqP_tb, Br.eqP_ln, Br.eqP_li, Br.eqP_ls, Br.eqP_lt, Br.eqP_lb, Br.eqP_bn, Br.eqP_bs, Br.eqP_bt, Br.eqP_bl, intsOf, List.getElem?_cons_zero, List.getElem?_cons_succ, List.getElem?_nil, List.set_cons_zero, List.set_cons_succ, List.map_cons, List.map_nil, List.cons_append, List.nil_append, List.length_cons, List.length_nil, List.replicate_succ, List.replicate_zero, List.append_nil, Option.bind_some, Option.bind_none, Option.map_some, Option.map_none, if_true, if_false, ite_true, ite_false, decide_true, decide_false, Bool.and_true, Bool.true_and, Bool.not_true, Bool.not_false, reduceIte, Option.isSome_some, Br.kit_NoneType_int, Br.kit_NoneType_bool, Br.kit_NoneType_str, Br.kit_NoneType_tuple, Br.kit_NoneType_list, Br.kit_NoneType_dict, Br.kit_bool_int, Br.kit_bool_bool, Br.kit_bool_str, Br.kit_bool_tuple, Br.kit_bool_list, Br.kit_bool_dict, Br.kit_int_int, Br.kit_int_bool, Br.kit_int_str, Br.kit_int_tuple, Br.kit_int_list, Br.kit_int_dict, Br.kit_str_int, Br.kit_str_bool, Br.kit_str_str, Br.kit_str_tuple, Br.kit_str_list, Br.kit_str_dict, Br.kit_tuple_int, Br.kit_tuple_bool, Br.kit_tuple_str, Br.kit_tuple_tuple, Br.kit_tuple_list, Br.kit_tuple_dict, Br.kit_list_int, Br.kit_list_bool, Br.kit_list_str, Br.kit_list_tuple, Br.kit_list_list, Br.kit_list_dict, Br.kit_dict_int, Br.kit_dict_bool, Br.kit_dict_str, Br.kit_dict_tuple, Br.kit_dict_list, Br.kit_dict_dict, L2.ixN, Br.rng_ok, Br.mul_ok_r, Br.mul_ok_l, LIM, Br.PV.i_int, Br.log2_lt_9000, Br.atI_0, Br.atI_1, Br.atI_2, lcntP, lidxP, bitsP, revP, cntP, sortedDP, minDP, maxDP, sortX, Br.x_try, Br.tryK_nx, Br.tryK_rt, Br.tryK_bk, Br.tryK_ct, Br.suiteX_nx, Br.suiteX_bk, Br.suiteX_ct, Br.suiteX_rt, Br.setX_some, Br.setX_none, Br.goneX_some, Br.goneX_none, Br.x_lock, Br.kLock_d, Br.lockR_nx, Br.lockR_rt, Br.l_callT', Br.v_callT, Br.kT1, Br.kT2, Br.kT3, Br.kT4_eq, Br.dropT_ok, Br.dropT_ex, Br.dropT_st, Br.sh_val, Br.sh_ref, Br.kXt, Br.v_xtup, Br.l_xtup, Br.lockV_s, Br.thin_0, Br.thin_c, Br.thinO_n, Br.thinO_s, Br.thinL_f, Br.thinL_l, Br.thinL_d, Br.thinL_t, Br.noD_n, Br.noD_b, Br.noD_i, Br.noD_s, Br.noD_e, Br.noD_t, Br.noD_x, Br.noD_l, Br.noD_d, Br.noDs_0, Br.noDs_c, Br.noDs_i, el_law_changed_right_6199_3, ph_law_changed_right_6199, b1, b2]
  simp -implicitDefEqProofs [ioOk, Br.frameOf, lvsOf, Br.exSs_nil, Br.exSs_cons, SO.seq_nx, SO.seq_rt, SO.seq_ex, SO.seq_bk, SO.seq_ct, SO.seq_st, SO.fin_nx, SO.fin_rt, SO.fin_ex, Br.v_app, Br.v_mth, Br.v_tup, Br.v_lst, Br.v_cst, Br.v_dnew, Br.v_var, Br.v_call, Br.v_and, Br.v_or, Br.v_not, Br.v_ite, Br.v_chain, Br.v_sl2, Br.v_comp, Br.v_aref, Br.v_aval, Br.v_as0, Br.v_as, Br.v_es0, Br.v_es, Br.v_tand, Br.v_tor, Br.v_tnot, Br.v_te, Br.v_ts0, Br.v_ts1, Br.v_seq, Br.v_rng1, Br.v_rng2, Br.v_enum, Br.v_zip, Br.v_popE, Br.v_dispV, Br.l_dispV', Br.v_popL, Br.l_popE, Br.l_popL, Br.kPopE_eq, Br.putE_some, Br.putE_none, Br.v_rev, Br.l_app, Br.l_mth', Br.l_lst', Br.l_dnew', Br.l_call', Br.l_comp', Br.l_var, Br.l_cst, Br.l_tup, Br.l_and, Br.l_or, Br.l_not, Br.l_ite, Br.l_chain, Br.l_sl2, Br.x_set, Br.x_unp, Br.x_par, Br.x_setIx, Br.x_app, Br.x_ext, Br.x_popA, Br.x_insA, Br.kPopA, Br.kIns1, Br.kIns2, Br.x_ex, Br.x_ret, Br.x_retV, Br.x_retN, Br.x_if, Br.x_whl, Br.x_brk, Br.x_cont, Br.x_pass, Br.x_raise, Br.kOp, Br.kVal, Br.kCons, Br.kAs, Br.kConsE, Br.kEs, Br.kTup, Br.kLst, Br.kCall, Br.kMth2, Br.kMth, Br.kAnd, Br.kOr, Br.kNot, Br.kIte, Br.kCh4, Br.kCh3, Br.kCh2b, Br.kCh2, Br.kCh1, Br.kS3, Br.kS2, Br.kS1, Br.kC6, Br.kC5, Br.kC4, Br.kC3, Br.kC0, Br.kC2, Br.kC1, Br.kTand, Br.kTor, Br.kTnot, Br.kTe, Br.kSeq, Br.kR1, Br.kR3, Br.kR2, Br.kEn, Br.kZ2, Br.kZ1, Br.kRv, Br.kOwn, Br.kFro, Br.kOwnV, Br.kCallL, Br.kSet, Br.kUnp, Br.kPar, Br.kSI2, Br.kSI1, Br.kApp, Br.kExt, Br.kEx, Br.kRet, Br.kIf, Br.kFor, Br.ifE_t, Br.ifE_f, Br.ifS_t, Br.ifS_f, Br.okE_eq, Br.cF, Br.x_for, ne_eq, reduceCtorEq, not_false_eq_true, implies_true, ER.bind_ok, ER.bind_ex, ER.bind_st, ER.so_ok, ER.so_ex, ER.so_st, ER.of_some, ER.of_none, SO.of_some, SO.of_none, Br.bindS_k, Br.bindK_some, Br.bindK_none, Tg.bind, Tg.binds, at', setIxP, AV.pvs, AV.pv, AV.lvs, AV.lv, AV.refs, AV.back, maskL, LV.isFro, LV.pv, Br.callE_k, Br.callK0_some, Br.callK_ok, Br.callK_ex, froE, Br.opX_add, Br.opX_sub, Br.opX_mul, Br.opX_fdiv, Br.opX_mod, Br.opX_pow, Br.opX_neg, Br.opX_eq, Br.opX_ne, Br.opX_lt, Br.opX_le, Br.opX_gt, Br.opX_ge, Br.opX_isN, Br.opX_isNN, Br.opX_inn, Br.opX_nin, Br.opX_len, Br.opX_sum, Br.opX_abs, Br.opX_int1, Br.opX_str1, Br.opX_tuple1, Br.opX_list1, Br.opX_sorted, Br.opX_allL, Br.opX_anyL, Br.opX_min2, Br.opX_max2, Br.opX_minL, Br.opX_maxL, Br.opX_idx, Br.opX_rev, Br.opX_dget, Br.opX_values, Br.opX_dmod, Br.opX_lcnt, Br.opX_tcnt, Br.opX_lidx, Br.opX_bits, Br.opX_sortedD, Br.opX_minD, Br.opX_maxD, Br.opX_isB, Br.opX_isNB, Br.opX_isTy, Br.opX_slc, Br.opX_isEx, Br.opX_dict1, Br.opX_tupleX, Br.dn_non, Br.dn_bl, Br.dn_int, Br.dn_str, Br.dn_ty, Br.dn_exc, Br.dn_tup, Br.dn_xt, Br.dn_lst, Br.dn_dK, Br.dn_dT, Br.dn_dn, Br.isD_dn, Br.eqP_dnl, Br.eqP_dnr, tupleXP, opSem, addP, subP, mulP, fdivP, modP, powP, negP, eqOP, neOP, ltOP, leOP, gtOP, geOP, isNP, isNNP, isBP, isNBP, PV.isNon, lenP, sumP, absP, int1P, str1P, tuple1P, list1P, min2P, max2P, idxP, slcP, slcPart, dmodP, isTyOP, isTys, isTyP, tyName, ownV, Op.new, wipeE, Br.backE_nil, Br.backE_cons, Br.froO_f, Br.froO_n, Br.froO_0, Br.froO_o, seqOf, parE, ownL, keyP, recvOk, PV.isD, PV.isT, Br.eqP_ii, Br.eqP_ss, Br.eqP_bb, Br.eqP_nn, Br.eqP_tt, Br.eqP_ll, Br.eqPs_00, Br.eqPs_0c, Br.eqPs_c0, Br.eqPs_cc, Br.eqPs_ints, Br.eqP_xl, Br.eqP_xr, Br.eqP_ni, Br.eqP_ns, Br.eqP_nt, Br.eqP_nl, Br.eqP_nb, Br.eqP_in, Br.eqP_is, Br.eqP_it, Br.eqP_il, Br.eqP_sn, Br.eqP_si, Br.eqP_st, Br.eqP_sl, Br.eqP_sb, Br.eqP_tn, Br.eqP_ti, Br.eqP_ts, Br.eqP_tl, Br.eqP_tb, Br.eqP_ln, Br.eqP_li, Br.eqP_ls, Br.eqP_lt, Br.eqP_lb, Br.eqP_bn, Br.eqP_bs, Br.eqP_bt, Br.eqP_bl, intsOf, List.getElem?_cons_zero, List.getElem?_cons_succ, List.getElem?_nil, List.set_cons_zero, List.set_cons_succ, List.map_cons, List.map_nil, List.cons_append, List.nil_append, List.length_cons, List.length_nil, List.replicate_succ, List.replicate_zero, List.append_nil, Option.bind_some, Option.bind_none, Option.map_some, Option.map_none, if_true, if_false, ite_true, ite_false, decide_true, decide_false, Bool.and_true, Bool.true_and, Bool.not_true, Bool.not_false, reduceIte, Option.isSome_some, Br.kit_NoneType_int, Br.kit_NoneType_bool, Br.kit_NoneType_str, Br.kit_NoneType_tuple, Br.kit_NoneType_list, Br.kit_NoneType_dict, Br.kit_bool_int, Br.kit_bool_bool, Br.kit_bool_str, Br.kit_bool_tuple, Br.kit_bool_list, Br.kit_bool_dict, Br.kit_int_int, Br.kit_int_bool, Br.kit_int_str, Br.kit_int_tuple, Br.kit_int_list, Br.kit_int_dict, Br.kit_str_int, Br.kit_str_bool, Br.kit_str_str, Br.kit_str_tuple, Br.kit_str_list, Br.kit_str_dict, Br.kit_tuple_int, Br.kit_tuple_bool, Br.kit_tuple_str, Br.kit_tuple_tuple, Br.kit_tuple_list, Br.kit_tuple_dict, Br.kit_list_int, Br.kit_list_bool, Br.kit_list_str, Br.kit_list_tuple, Br.kit_list_list, Br.kit_list_dict, Br.kit_dict_int, Br.kit_dict_bool, Br.kit_dict_str, Br.kit_dict_tuple, Br.kit_dict_list, Br.kit_dict_dict, L2.ixN, Br.rng_ok, Br.mul_ok_r, Br.mul_ok_l, LIM, Br.PV.i_int, Br.log2_lt_9000, Br.atI_0, Br.atI_1, Br.atI_2, lcntP, lidxP, bitsP, revP, cntP, sortedDP, minDP, maxDP, sortX, Br.x_try, Br.tryK_nx, Br.tryK_rt, Br.tryK_bk, Br.tryK_ct, Br.suiteX_nx, Br.suiteX_bk, Br.suiteX_ct, Br.suiteX_rt, Br.setX_some, Br.setX_none, Br.goneX_some, Br.goneX_none, Br.x_lock, Br.kLock_d, Br.lockR_nx, Br.lockR_rt, Br.l_callT', Br.v_callT, Br.kT1, Br.kT2, Br.kT3, Br.kT4_eq, Br.dropT_ok, Br.dropT_ex, Br.dropT_st, Br.sh_val, Br.sh_ref, Br.kXt, Br.v_xtup, Br.l_xtup, Br.lockV_s, Br.thin_0, Br.thin_c, Br.thinO_n, Br.thinO_s, Br.thinL_f, Br.thinL_l, Br.thinL_d, Br.thinL_t, Br.noD_n, Br.noD_b, Br.noD_i, Br.noD_s, Br.noD_e, Br.noD_t, Br.noD_x, Br.noD_l, Br.noD_d, Br.noDs_0, Br.noDs_c, Br.noDs_i, ph_law_changed_right_6199, e0, hcl, hrl, hrp, -List.map_map]
  rw [hcomp]
  simp -implicitDefEqProofs [ioOk, Br.frameOf, lvsOf, Br.exSs_nil, Br.exSs_cons, SO.seq_nx, SO.seq_rt, SO.seq_ex, SO.seq_bk, SO.seq_ct, SO.seq_st, SO.fin_nx, SO.fin_rt, SO.fin_ex, Br.v_app, Br.v_mth, Br.v_tup, Br.v_lst, Br.v_cst, Br.v_dnew, Br.v_var, Br.v_call, Br.v_and, Br.v_or, Br.v_not, Br.v_ite, Br.v_chain, Br.v_sl2, Br.v_comp, Br.v_aref, Br.v_aval, Br.v_as0, Br.v_as, Br.v_es0, Br.v_es, Br.v_tand, Br.v_tor, Br.v_tnot, Br.v_te, Br.v_ts0, Br.v_ts1, Br.v_seq, Br.v_rng1, Br.v_rng2, Br.v_enum, Br.v_zip, Br.v_popE, Br.v_dispV, Br.l_dispV', Br.v_popL, Br.l_popE, Br.l_popL, Br.kPopE_eq, Br.putE_some, Br.putE_none, Br.v_rev, Br.l_app, Br.l_mth', Br.l_lst', Br.l_dnew', Br.l_call', Br.l_comp', Br.l_var, Br.l_cst, Br.l_tup, Br.l_and, Br.l_or, Br.l_not, Br.l_ite, Br.l_chain, Br.l_sl2, Br.x_set, Br.x_unp, Br.x_par, Br.x_setIx, Br.x_app, Br.x_ext, Br.x_popA, Br.x_insA, Br.kPopA, Br.kIns1, Br.kIns2, Br.x_ex, Br.x_ret, Br.x_retV, Br.x_retN, Br.x_if, Br.x_whl, Br.x_brk, Br.x_cont, Br.x_pass, Br.x_raise, Br.kOp, Br.kVal, Br.kCons, Br.kAs, Br.kConsE, Br.kEs, Br.kTup, Br.kLst, Br.kCall, Br.kMth2, Br.kMth, Br.kAnd, Br.kOr, Br.kNot, Br.kIte, Br.kCh4, Br.kCh3, Br.kCh2b, Br.kCh2, Br.kCh1, Br.kS3, Br.kS2, Br.kS1, Br.kC6, Br.kC5, Br.kC4, Br.kC3, Br.kC0, Br.kC2, Br.kC1, Br.kTand, Br.kTor, Br.kTnot, Br.kTe, Br.kSeq, Br.kR1, Br.kR3, Br.kR2, Br.kEn, Br.kZ2, Br.kZ1, Br.kRv, Br.kOwn, Br.kFro, Br.kOwnV, Br.kCallL, Br.kSet, Br.kUnp, Br.kPar, Br.kSI2, Br.kSI1, Br.kApp, Br.kExt, Br.kEx, Br.kRet, Br.kIf, Br.kFor, Br.ifE_t, Br.ifE_f, Br.ifS_t, Br.ifS_f, Br.okE_eq, Br.cF, Br.x_for, ne_eq, reduceCtorEq, not_false_eq_true, implies_true, ER.bind_ok, ER.bind_ex, ER.bind_st, ER.so_ok, ER.so_ex, ER.so_st, ER.of_some, ER.of_none, SO.of_some, SO.of_none, Br.bindS_k, Br.bindK_some, Br.bindK_none, Tg.bind, Tg.binds, at', setIxP, AV.pvs, AV.pv, AV.lvs, AV.lv, AV.refs, AV.back, maskL, LV.isFro, LV.pv, Br.callE_k, Br.callK0_some, Br.callK_ok, Br.callK_ex, froE, Br.opX_add, Br.opX_sub, Br.opX_mul, Br.opX_fdiv, Br.opX_mod, Br.opX_pow, Br.opX_neg, Br.opX_eq, Br.opX_ne, Br.opX_lt, Br.opX_le, Br.opX_gt, Br.opX_ge, Br.opX_isN, Br.opX_isNN, Br.opX_inn, Br.opX_nin, Br.opX_len, Br.opX_sum, Br.opX_abs, Br.opX_int1, Br.opX_str1, Br.opX_tuple1, Br.opX_list1, Br.opX_sorted, Br.opX_allL, Br.opX_anyL, Br.opX_min2, Br.opX_max2, Br.opX_minL, Br.opX_maxL, Br.opX_idx, Br.opX_rev, Br.opX_dget, Br.opX_values, Br.opX_dmod, Br.opX_lcnt, Br.opX_tcnt, Br.opX_lidx, Br.opX_bits, Br.opX_sortedD, Br.opX_minD, Br.opX_maxD, Br.opX_isB, Br.opX_isNB, Br.opX_isTy, Br.opX_slc, Br.opX_isEx, Br.opX_dict1, Br.opX_tupleX, Br.dn_non, Br.dn_bl, Br.dn_int, Br.dn_str, Br.dn_ty, Br.dn_exc, Br.dn_tup, Br.dn_xt, Br.dn_lst, Br.dn_dK, Br.dn_dT, Br.dn_dn, Br.isD_dn, Br.eqP_dnl, Br.eqP_dnr, tupleXP, opSem, addP, subP, mulP, fdivP, modP, powP, negP, eqOP, neOP, ltOP, leOP, gtOP, geOP, isNP, isNNP, isBP, isNBP, PV.isNon, lenP, sumP, absP, int1P, str1P, tuple1P, list1P, min2P, max2P, idxP, slcP, slcPart, dmodP, isTyOP, isTys, isTyP, tyName, ownV, Op.new, wipeE, Br.backE_nil, Br.backE_cons, Br.froO_f, Br.froO_n, Br.froO_0, Br.froO_o, seqOf, parE, ownL, keyP, recvOk, PV.isD, PV.isT, Br.eqP_ii, Br.eqP_ss, Br.eqP_bb, Br.eqP_nn, Br.eqP_tt, Br.eqP_ll, Br.eqPs_00, Br.eqPs_0c, Br.eqPs_c0, Br.eqPs_cc, Br.eqPs_ints, Br.eqP_xl, Br.eqP_xr, Br.eqP_ni, Br.eqP_ns, Br.eqP_nt, Br.eqP_nl, Br.eqP_nb, Br.eqP_in, Br.eqP_is, Br.eqP_it, Br.eqP_il, Br.eqP_sn, Br.eqP_si, Br.eqP_st, Br.eqP_sl, Br.eqP_sb, Br.eqP_tn, Br.eqP_ti, Br.eqP_ts, Br.eqP_tl, Br.eqP_tb, Br.eqP_ln, Br.eqP_li, Br.eqP_ls, Br.eqP_lt, Br.eqP_lb, Br.eqP_bn, Br.eqP_bs, Br.eqP_bt, Br.eqP_bl, intsOf, List.getElem?_cons_zero, List.getElem?_cons_succ, List.getElem?_nil, List.set_cons_zero, List.set_cons_succ, List.map_cons, List.map_nil, List.cons_append, List.nil_append, List.length_cons, List.length_nil, List.replicate_succ, List.replicate_zero, List.append_nil, Option.bind_some, Option.bind_none, Option.map_some, Option.map_none, if_true, if_false, ite_true, ite_false, decide_true, decide_false, Bool.and_true, Bool.true_and, Bool.not_true, Bool.not_false, reduceIte, Option.isSome_some, Br.kit_NoneType_int, Br.kit_NoneType_bool, Br.kit_NoneType_str, Br.kit_NoneType_tuple, Br.kit_NoneType_list, Br.kit_NoneType_dict, Br.kit_bool_int, Br.kit_bool_bool, Br.kit_bool_str, Br.kit_bool_tuple, Br.kit_bool_list, Br.kit_bool_dict, Br.kit_int_int, Br.kit_int_bool, Br.kit_int_str, Br.kit_int_tuple, Br.kit_int_list, Br.kit_int_dict, Br.kit_str_int, Br.kit_str_bool, Br.kit_str_str, Br.kit_str_tuple, Br.kit_str_list, Br.kit_str_dict, Br.kit_tuple_int, Br.kit_tuple_bool, Br.kit_tuple_str, Br.kit_tuple_tuple, Br.kit_tuple_list, Br.kit_tuple_dict, Br.kit_list_int, Br.kit_list_bool, Br.kit_list_str, Br.kit_list_tuple, Br.kit_list_list, Br.kit_list_dict, Br.kit_dict_int, Br.kit_dict_bool, Br.kit_dict_str, Br.kit_dict_tuple, Br.kit_dict_list, Br.kit_dict_dict, L2.ixN, Br.rng_ok, Br.mul_ok_r, Br.mul_ok_l, LIM, Br.PV.i_int, Br.log2_lt_9000, Br.atI_0, Br.atI_1, Br.atI_2, lcntP, lidxP, bitsP, revP, cntP, sortedDP, minDP, maxDP, sortX, Br.x_try, Br.tryK_nx, Br.tryK_rt, Br.tryK_bk, Br.tryK_ct, Br.suiteX_nx, Br.suiteX_bk, Br.suiteX_ct, Br.suiteX_rt, Br.setX_some, Br.setX_none, Br.goneX_some, Br.goneX_none, Br.x_lock, Br.kLock_d, Br.lockR_nx, Br.lockR_rt, Br.l_callT', Br.v_callT, Br.kT1, Br.kT2, Br.kT3, Br.kT4_eq, Br.dropT_ok, Br.dropT_ex, Br.dropT_st, Br.sh_val, Br.sh_ref, Br.kXt, Br.v_xtup, Br.l_xtup, Br.lockV_s, Br.thin_0, Br.thin_c, Br.thinO_n, Br.thinO_s, Br.thinL_f, Br.thinL_l, Br.thinL_d, Br.thinL_t, Br.noD_n, Br.noD_b, Br.noD_i, Br.noD_s, Br.noD_e, Br.noD_t, Br.noD_x, Br.noD_l, Br.noD_d, Br.noDs_0, Br.noDs_c, Br.noDs_i, ph_law_changed_right_6199, e1, e2, ← hM, hcl, hlen, hrp, -List.map_map]
  rw [compL_map (h := fun p => .int (M * p.i))]
  rotate_left
  · intro x hx
    obtain ⟨c, _, rfl⟩ := List.mem_map.mp hx
    simp -implicitDefEqProofs [ioOk, Br.frameOf, lvsOf, Br.exSs_nil, Br.exSs_cons, SO.seq_nx, SO.seq_rt, SO.seq_ex, SO.seq_bk, SO.seq_ct, SO.seq_st, SO.fin_nx, SO.fin_rt, SO.fin_ex, Br.v_app, Br.v_mth, Br.v_tup, Br.v_lst, Br.v_cst, Br.v_dnew, Br.v_var, Br.v_call, Br.v_and, Br.v_or, Br.v_not, Br.v_ite, Br.v_chain, Br.v_sl2, Br.v_comp, Br.v_aref, Br.v_aval, Br.v_as0, Br.v_as, Br.v_es0, Br.v_es, Br.v_tand, Br.v_tor, Br.v_tnot, Br.v_te, Br.v_ts0, Br.v_ts1, Br.v_seq, Br.v_rng1, Br.v_rng2, Br.v_enum, Br.v_zip, Br.v_popE, Br.v_dispV, Br.l_dispV', Br.v_popL, Br.l_popE, Br.l_popL, Br.kPopE_eq, Br.putE_some, Br.putE_none, Br.v_rev, Br.l_app, Br.l_mth', Br.l_lst', Br.l_dnew', Br.l_call', Br.l_comp', Br.l_var, Br.l_cst, Br.l_tup, Br.l_and, Br.l_or, Br.l_not, Br.l_ite, Br.l_chain, Br.l_sl2, Br.x_set, Br.x_unp, Br.x_par, Br.x_setIx, Br.x_app, Br.x_ext, Br.x_popA, Br.x_insA, Br.kPopA, Br.kIns1, Br.kIns2, Br.x_ex, Br.x_ret, Br.x_retV, Br.x_retN, Br.x_if, Br.x_whl, Br.x_brk, Br.x_cont, Br.x_pass, Br.x_raise, Br.kOp, Br.kVal, Br.kCons, Br.kAs, Br.kConsE, Br.kEs, Br.kTup, Br.kLst, Br.kCall, Br.kMth2, Br.kMth, Br.kAnd, Br.kOr, Br.kNot, Br.kIte, Br.kCh4, Br.kCh3, Br.kCh2b, Br.kCh2, Br.kCh1, Br.kS3, Br.kS2, Br.kS1, Br.kC6, Br.kC5, Br.kC4, Br.kC3, Br.kC0, Br.kC2, Br.kC1, Br.kTand, Br.kTor, Br.kTnot, Br.kTe, Br.kSeq, Br.kR1, Br.kR3, Br.kR2, Br.kEn, Br.kZ2, Br.kZ1, Br.kRv, Br.kOwn, Br.kFro, Br.kOwnV, Br.kCallL, Br.kSet, Br.kUnp, Br.kPar, Br.kSI2, Br.kSI1, Br.kApp, Br.kExt, Br.kEx, Br.kRet, Br.kIf, Br.kFor, Br.ifE_t, Br.ifE_f, Br.ifS_t, Br.ifS_f, Br.okE_eq, Br.cF, Br.x_for, ne_eq, reduceCtorEq, not_false_eq_true, implies_true, ER.bind_ok, ER.bind_ex, ER.bind_st, ER.so_ok, ER.so_ex, ER.so_st, ER.of_some, ER.of_none, SO.of_some, SO.of_none, Br.bindS_k, Br.bindK_some, Br.bindK_none, Tg.bind, Tg.binds, at', setIxP, AV.pvs, AV.pv, AV.lvs, AV.lv, AV.refs, AV.back, maskL, LV.isFro, LV.pv, Br.callE_k, Br.callK0_some, Br.callK_ok, Br.callK_ex, froE, Br.opX_add, Br.opX_sub, Br.opX_mul, Br.opX_fdiv, Br.opX_mod, Br.opX_pow, Br.opX_neg, Br.opX_eq, Br.opX_ne, Br.opX_lt, Br.opX_le, Br.opX_gt, Br.opX_ge, Br.opX_isN, Br.opX_isNN, Br.opX_inn, Br.opX_nin, Br.opX_len, Br.opX_sum, Br.opX_abs, Br.opX_int1, Br.opX_str1, Br.opX_tuple1, Br.opX_list1, Br.opX_sorted, Br.opX_allL, Br.opX_anyL, Br.opX_min2, Br.opX_max2, Br.opX_minL, Br.opX_maxL, Br.opX_idx, Br.opX_rev, Br.opX_dget, Br.opX_values, Br.opX_dmod, Br.opX_lcnt, Br.opX_tcnt, Br.opX_lidx, Br.opX_bits, Br.opX_sortedD, Br.opX_minD, Br.opX_maxD, Br.opX_isB, Br.opX_isNB, Br.opX_isTy, Br.opX_slc, Br.opX_isEx, Br.opX_dict1, Br.opX_tupleX, Br.dn_non, Br.dn_bl, Br.dn_int, Br.dn_str, Br.dn_ty, Br.dn_exc, Br.dn_tup, Br.dn_xt, Br.dn_lst, Br.dn_dK, Br.dn_dT, Br.dn_dn, Br.isD_dn, Br.eqP_dnl, Br.eqP_dnr, tupleXP, opSem, addP, subP, mulP, fdivP, modP, powP, negP, eqOP, neOP, ltOP, leOP, gtOP, geOP, isNP, isNNP, isBP, isNBP, PV.isNon, lenP, sumP, absP, int1P, str1P, tuple1P, list1P, min2P, max2P, idxP, slcP, slcPart, dmodP, isTyOP, isTys, isTyP, tyName, ownV, Op.new, wipeE, Br.backE_nil, Br.backE_cons, Br.froO_f, Br.froO_n, Br.froO_0, Br.froO_o, seqOf, parE, ownL, keyP, recvOk, PV.isD, PV.isT, Br.eqP_ii, Br.eqP_ss, Br.eqP_bb, Br.eqP_nn, Br.eqP_tt, Br.eqP_ll, Br.eqPs_00, Br.eqPs_0c, Br.eqPs_c0, Br.eqPs_cc, Br.eqPs_ints, Br.eqP_xl, Br.eqP_xr, Br.eqP_ni, Br.eqP_ns, Br.eqP_nt, Br.eqP_nl, Br.eqP_nb, Br.eqP_in, Br.eqP_is, Br.eqP_it, Br.eqP_il, Br.eqP_sn, Br.eqP_si, Br.eqP_st, Br.eqP_sl, Br.eqP_sb, Br.eqP_tn, Br.eqP_ti, Br.eqP_ts, Br.eqP_tl, Br.eqP_tb, Br.eqP_ln, Br.eqP_li, Br.eqP_ls, Br.eqP_lt, Br.eqP_lb, Br.eqP_bn, Br.eqP_bs, Br.eqP_bt, Br.eqP_bl, intsOf, List.getElem?_cons_zero, List.getElem?_cons_succ, List.getElem?_nil, List.set_cons_zero, List.set_cons_succ, List.map_cons, List.map_nil, List.cons_append, List.nil_append, List.length_cons, List.length_nil, List.replicate_succ, List.replicate_zero, List.append_nil, Option.bind_some, Option.bind_none, Option.map_some, Option.map_none, if_true, if_false, ite_true, ite_false, decide_true, decide_false, Bool.and_true, Bool.true_and, Bool.not_true, Bool.not_false, reduceIte, Option.isSome_some, Br.kit_NoneType_int, Br.kit_NoneType_bool, Br.kit_NoneType_str, Br.kit_NoneType_tuple, Br.kit_NoneType_list, Br.kit_NoneType_dict, Br.kit_bool_int, Br.kit_bool_bool, Br.kit_bool_str, Br.kit_bool_tuple, Br.kit_bool_list, Br.kit_bool_dict, Br.kit_int_int, Br.kit_int_bool, Br.kit_int_str, Br.kit_int_tuple, Br.kit_int_list, Br.kit_int_dict, Br.kit_str_int, Br.kit_str_bool, Br.kit_str_str, Br.kit_str_tuple, Br.kit_str_list, Br.kit_str_dict, Br.kit_tuple_int, Br.kit_tuple_bool, Br.kit_tuple_str, Br.kit_tuple_tuple, Br.kit_tuple_list, Br.kit_tuple_dict, Br.kit_list_int, Br.kit_list_bool, Br.kit_list_str, Br.kit_list_tuple, Br.kit_list_list, Br.kit_list_dict, Br.kit_dict_int, Br.kit_dict_bool, Br.kit_dict_str, Br.kit_dict_tuple, Br.kit_dict_list, Br.kit_dict_dict, L2.ixN, Br.rng_ok, Br.mul_ok_r, Br.mul_ok_l, LIM, Br.PV.i_int, Br.log2_lt_9000, Br.atI_0, Br.atI_1, Br.atI_2, lcntP, lidxP, bitsP, revP, cntP, sortedDP, minDP, maxDP, sortX, Br.x_try, Br.tryK_nx, Br.tryK_rt, Br.tryK_bk, Br.tryK_ct, Br.suiteX_nx, Br.suiteX_bk, Br.suiteX_ct, Br.suiteX_rt, Br.setX_some, Br.setX_none, Br.goneX_some, Br.goneX_none, Br.x_lock, Br.kLock_d, Br.lockR_nx, Br.lockR_rt, Br.l_callT', Br.v_callT, Br.kT1, Br.kT2, Br.kT3, Br.kT4_eq, Br.dropT_ok, Br.dropT_ex, Br.dropT_st, Br.sh_val, Br.sh_ref, Br.kXt, Br.v_xtup, Br.l_xtup, Br.lockV_s, Br.thin_0, Br.thin_c, Br.thinO_n, Br.thinO_s, Br.thinL_f, Br.thinL_l, Br.thinL_d, Br.thinL_t, Br.noD_n, Br.noD_b, Br.noD_i, Br.noD_s, Br.noD_e, Br.noD_t, Br.noD_x, Br.noD_l, Br.noD_d, Br.noDs_0, Br.noDs_c, Br.noDs_i, el_law_changed_right_6199_2, hMn]
  rw [es2]
  simp -implicitDefEqProofs [ioOk, Br.frameOf, lvsOf, Br.exSs_nil, Br.exSs_cons, SO.seq_nx, SO.seq_rt, SO.seq_ex, SO.seq_bk, SO.seq_ct, SO.seq_st, SO.fin_nx, SO.fin_rt, SO.fin_ex, Br.v_app, Br.v_mth, Br.v_tup, Br.v_lst, Br.v_cst, Br.v_dnew, Br.v_var, Br.v_call, Br.v_and, Br.v_or, Br.v_not, Br.v_ite, Br.v_chain, Br.v_sl2, Br.v_comp, Br.v_aref, Br.v_aval, Br.v_as0, Br.v_as, Br.v_es0, Br.v_es, Br.v_tand, Br.v_tor, Br.v_tnot, Br.v_te, Br.v_ts0, Br.v_ts1, Br.v_seq, Br.v_rng1, Br.v_rng2, Br.v_enum, Br.v_zip, Br.v_popE, Br.v_dispV, Br.l_dispV', Br.v_popL, Br.l_popE, Br.l_popL, Br.kPopE_eq, Br.putE_some, Br.putE_none, Br.v_rev, Br.l_app, Br.l_mth', Br.l_lst', Br.l_dnew', Br.l_call', Br.l_comp', Br.l_var, Br.l_cst, Br.l_tup, Br.l_and, Br.l_or, Br.l_not, Br.l_ite, Br.l_chain, Br.l_sl2, Br.x_set, Br.x_unp, Br.x_par, Br.x_setIx, Br.x_app, Br.x_ext, Br.x_popA, Br.x_insA, Br.kPopA, Br.kIns1, Br.kIns2, Br.x_ex, Br.x_ret, Br.x_retV, Br.x_retN, Br.x_if, Br.x_whl, Br.x_brk, Br.x_cont, Br.x_pass, Br.x_raise, Br.kOp, Br.kVal, Br.kCons, Br.kAs, Br.kConsE, Br.kEs, Br.kTup, Br.kLst, Br.kCall, Br.kMth2, Br.kMth, Br.kAnd, Br.kOr, Br.kNot, Br.kIte, Br.kCh4, Br.kCh3, Br.kCh2b, Br.kCh2, Br.kCh1, Br.kS3, Br.kS2, Br.kS1, Br.kC6, Br.kC5, Br.kC4, Br.kC3, Br.kC0, Br.kC2, Br.kC1, Br.kTand, Br.kTor, Br.kTnot, Br.kTe, Br.kSeq, Br.kR1, Br.kR3, Br.kR2, Br.kEn, Br.kZ2, Br.kZ1, Br.kRv, Br.kOwn, Br.kFro, Br.kOwnV, Br.kCallL, Br.kSet, Br.kUnp, Br.kPar, Br.kSI2, Br.kSI1, Br.kApp, Br.kExt, Br.kEx, Br.kRet, Br.kIf, Br.kFor, Br.ifE_t, Br.ifE_f, Br.ifS_t, Br.ifS_f, Br.okE_eq, Br.cF, Br.x_for, ne_eq, reduceCtorEq, not_false_eq_true, implies_true, ER.bind_ok, ER.bind_ex, ER.bind_st, ER.so_ok, ER.so_ex, ER.so_st, ER.of_some, ER.of_none, SO.of_some, SO.of_none, Br.bindS_k, Br.bindK_some, Br.bindK_none, Tg.bind, Tg.binds, at', setIxP, AV.pvs, AV.pv, AV.lvs, AV.lv, AV.refs, AV.back, maskL, LV.isFro, LV.pv, Br.callE_k, Br.callK0_some, Br.callK_ok, Br.callK_ex, froE, Br.opX_add, Br.opX_sub, Br.opX_mul, Br.opX_fdiv, Br.opX_mod, Br.opX_pow, Br.opX_neg, Br.opX_eq, Br.opX_ne, Br.opX_lt, Br.opX_le, Br.opX_gt, Br.opX_ge, Br.opX_isN, Br.opX_isNN, Br.opX_inn, Br.opX_nin, Br.opX_len, Br.opX_sum, Br.opX_abs, Br.opX_int1, Br.opX_str1, Br.opX_tuple1, Br.opX_list1, Br.opX_sorted, Br.opX_allL, Br.opX_anyL, Br.opX_min2, Br.opX_max2, Br.opX_minL, Br.opX_maxL, Br.opX_idx, Br.opX_rev, Br.opX_dget, Br.opX_values, Br.opX_dmod, Br.opX_lcnt, Br.opX_tcnt, Br.opX_lidx, Br.opX_bits, Br.opX_sortedD, Br.opX_minD, Br.opX_maxD, Br.opX_isB, Br.opX_isNB, Br.opX_isTy, Br.opX_slc, Br.opX_isEx, Br.opX_dict1, Br.opX_tupleX, Br.dn_non, Br.dn_bl, Br.dn_int, Br.dn_str, Br.dn_ty, Br.dn_exc, Br.dn_tup, Br.dn_xt, Br.dn_lst, Br.dn_dK, Br.dn_dT, Br.dn_dn, Br.isD_dn, Br.eqP_dnl, Br.eqP_dnr, tupleXP, opSem, addP, subP, mulP, fdivP, modP, powP, negP, eqOP, neOP, ltOP, leOP, gtOP, geOP, isNP, isNNP, isBP, isNBP, PV.isNon, lenP, sumP, absP, int1P, str1P, tuple1P, list1P, min2P, max2P, idxP, slcP, slcPart, dmodP, isTyOP, isTys, isTyP, tyName, ownV, Op.new, wipeE, Br.backE_nil, Br.backE_cons, Br.froO_f, Br.froO_n, Br.froO_0, Br.froO_o, seqOf, parE, ownL, keyP, recvOk, PV.isD, PV.isT, Br.eqP_ii, Br.eqP_ss, Br.eqP_bb, Br.eqP_nn, Br.eqP_tt, Br.eqP_ll, Br.eqPs_00, Br.eqPs_0c, Br.eqPs_c0, Br.eqPs_cc, Br.eqPs_ints, Br.eqP_xl, Br.eqP_xr, Br.eqP_ni, Br.eqP_ns, Br.eqP_nt, Br.eqP_nl, Br.eqP_nb, Br.eqP_in, Br.eqP_is, Br.eqP_it, Br.eqP_il, Br.eqP_sn, Br.eqP_si, Br.eqP_st, Br.eqP_sl, Br.eqP_sb, Br.eqP_tn, Br.eqP_ti, Br.eqP_ts, Br.eqP_tl, Br.eqP_tb, Br.eqP_ln, Br.eqP_li, Br.eqP_ls, Br.eqP_lt, Br.eqP_lb, Br.eqP_bn, Br.eqP_bs, Br.eqP_bt, Br.eqP_bl, intsOf, List.getElem?_cons_zero, List.getElem?_cons_succ, List.getElem?_nil, List.set_cons_zero, List.set_cons_succ, List.map_cons, List.map_nil, List.cons_append, List.nil_append, List.length_cons, List.length_nil, List.replicate_succ, List.replicate_zero, List.append_nil, Option.bind_some, Option.bind_none, Option.map_some, Option.map_none, if_true, if_false, ite_true, ite_false, decide_true, decide_false, Bool.and_true, Bool.true_and, Bool.not_true, Bool.not_false, reduceIte, Option.isSome_some, Br.kit_NoneType_int, Br.kit_NoneType_bool, Br.kit_NoneType_str, Br.kit_NoneType_tuple, Br.kit_NoneType_list, Br.kit_NoneType_dict, Br.kit_bool_int, Br.kit_bool_bool, Br.kit_bool_str, Br.kit_bool_tuple, Br.kit_bool_list, Br.kit_bool_dict, Br.kit_int_int, Br.kit_int_bool, Br.kit_int_str, Br.kit_int_tuple, Br.kit_int_list, Br.kit_int_dict, Br.kit_str_int, Br.kit_str_bool, Br.kit_str_str, Br.kit_str_tuple, Br.kit_str_list, Br.kit_str_dict, Br.kit_tuple_int, Br.kit_tuple_bool, Br.kit_tuple_str, Br.kit_tuple_tuple, Br.kit_tuple_list, Br.kit_tuple_dict, Br.kit_list_int, Br.kit_list_bool, Br.kit_list_str, Br.kit_list_tuple, Br.kit_list_list, Br.kit_list_dict, Br.kit_dict_int, Br.kit_dict_bool, Br.kit_dict_str, Br.kit_dict_tuple, Br.kit_dict_list, Br.kit_dict_dict, L2.ixN, Br.rng_ok, Br.mul_ok_r, Br.mul_ok_l, LIM, Br.PV.i_int, Br.log2_lt_9000, Br.atI_0, Br.atI_1, Br.atI_2, lcntP, lidxP, bitsP, revP, cntP, sortedDP, minDP, maxDP, sortX, Br.x_try, Br.tryK_nx, Br.tryK_rt, Br.tryK_bk, Br.tryK_ct, Br.suiteX_nx, Br.suiteX_bk, Br.suiteX_ct, Br.suiteX_rt, Br.setX_some, Br.setX_none, Br.goneX_some, Br.goneX_none, Br.x_lock, Br.kLock_d, Br.lockR_nx, Br.lockR_rt, Br.l_callT', Br.v_callT, Br.kT1, Br.kT2, Br.kT3, Br.kT4_eq, Br.dropT_ok, Br.dropT_ex, Br.dropT_st, Br.sh_val, Br.sh_ref, Br.kXt, Br.v_xtup, Br.l_xtup, Br.lockV_s, Br.thin_0, Br.thin_c, Br.thinO_n, Br.thinO_s, Br.thinL_f, Br.thinL_l, Br.thinL_d, Br.thinL_t, Br.noD_n, Br.noD_b, Br.noD_i, Br.noD_s, Br.noD_e, Br.noD_t, Br.noD_x, Br.noD_l, Br.noD_d, Br.noDs_0, Br.noDs_c, Br.noDs_i, ph_law_changed_right_6199, e3, t1, t2, hMn, e4, at1, z1, z3, ← hm, z4, z5, c1, e5, h01, hcl, -List.map_map]
  by_cases c12 : cs.length < 12
  · have c12' : (cs.length : Int) < 12 := by omega
    obtain ⟨v, a4, v0, v1, ha4, e6⟩ := take_9d40 (m := 50) ha3 (by omega) (by omega)
    have hv : ∀ c ∈ cs ++ [v], 0 ≤ c ∧ c ≤ 1000000000000000000000000000000000000000000000000000000000000 := fun c h => by
      rcases List.mem_append.mp h with h | h
      · have := hc c h; omega
      · have := List.mem_singleton.mp h; omega
    obtain ⟨g3, m4, e7⟩ := most (cs := cs ++ [v]) (d := d) (by simp; omega) h1 h2 hv
    have hg3 : r' ≤ g3 := m0.more hc0 (fun c h => (hv c h).1) (fun t ht => by
      rw [Sm_app, Sm_cons, Sm_nil]
      split <;> omega) m4
    have hg3' : ¬ g3 < r' := by omega
    rw [List.map_append, List.map_cons, List.map_nil] at e7
    have z6 : cs.length + 1 ≤ 1000000 := by omega
    have z7 : cs.length ≤ 999999 := by omega
    simp -implicitDefEqProofs [ioOk, Br.frameOf, lvsOf, Br.exSs_nil, Br.exSs_cons, SO.seq_nx, SO.seq_rt, SO.seq_ex, SO.seq_bk, SO.seq_ct, SO.seq_st, SO.fin_nx, SO.fin_rt, SO.fin_ex, Br.v_app, Br.v_mth, Br.v_tup, Br.v_lst, Br.v_cst, Br.v_dnew, Br.v_var, Br.v_call, Br.v_and, Br.v_or, Br.v_not, Br.v_ite, Br.v_chain, Br.v_sl2, Br.v_comp, Br.v_aref, Br.v_aval, Br.v_as0, Br.v_as, Br.v_es0, Br.v_es, Br.v_tand, Br.v_tor, Br.v_tnot, Br.v_te, Br.v_ts0, Br.v_ts1, Br.v_seq, Br.v_rng1, Br.v_rng2, Br.v_enum, Br.v_zip, Br.v_popE, Br.v_dispV, Br.l_dispV', Br.v_popL, Br.l_popE, Br.l_popL, Br.kPopE_eq, Br.putE_some, Br.putE_none, Br.v_rev, Br.l_app, Br.l_mth', Br.l_lst', Br.l_dnew', Br.l_call', Br.l_comp', Br.l_var, Br.l_cst, Br.l_tup, Br.l_and, Br.l_or, Br.l_not, Br.l_ite, Br.l_chain, Br.l_sl2, Br.x_set, Br.x_unp, Br.x_par, Br.x_setIx, Br.x_app, Br.x_ext, Br.x_popA, Br.x_insA, Br.kPopA, Br.kIns1, Br.kIns2, Br.x_ex, Br.x_ret, Br.x_retV, Br.x_retN, Br.x_if, Br.x_whl, Br.x_brk, Br.x_cont, Br.x_pass, Br.x_raise, Br.kOp, Br.kVal, Br.kCons, Br.kAs, Br.kConsE, Br.kEs, Br.kTup, Br.kLst, Br.kCall, Br.kMth2, Br.kMth, Br.kAnd, Br.kOr, Br.kNot, Br.kIte, Br.kCh4, Br.kCh3, Br.kCh2b, Br.kCh2, Br.kCh1, Br.kS3, Br.kS2, Br.kS1, Br.kC6, Br.kC5, Br.kC4, Br.kC3, Br.kC0, Br.kC2, Br.kC1, Br.kTand, Br.kTor, Br.kTnot, Br.kTe, Br.kSeq, Br.kR1, Br.kR3, Br.kR2, Br.kEn, Br.kZ2, Br.kZ1, Br.kRv, Br.kOwn, Br.kFro, Br.kOwnV, Br.kCallL, Br.kSet, Br.kUnp, Br.kPar, Br.kSI2, Br.kSI1, Br.kApp, Br.kExt, Br.kEx, Br.kRet, Br.kIf, Br.kFor, Br.ifE_t, Br.ifE_f, Br.ifS_t, Br.ifS_f, Br.okE_eq, Br.cF, Br.x_for, ne_eq, reduceCtorEq, not_false_eq_true, implies_true, ER.bind_ok, ER.bind_ex, ER.bind_st, ER.so_ok, ER.so_ex, ER.so_st, ER.of_some, ER.of_none, SO.of_some, SO.of_none, Br.bindS_k, Br.bindK_some, Br.bindK_none, Tg.bind, Tg.binds, at', setIxP, AV.pvs, AV.pv, AV.lvs, AV.lv, AV.refs, AV.back, maskL, LV.isFro, LV.pv, Br.callE_k, Br.callK0_some, Br.callK_ok, Br.callK_ex, froE, Br.opX_add, Br.opX_sub, Br.opX_mul, Br.opX_fdiv, Br.opX_mod, Br.opX_pow, Br.opX_neg, Br.opX_eq, Br.opX_ne, Br.opX_lt, Br.opX_le, Br.opX_gt, Br.opX_ge, Br.opX_isN, Br.opX_isNN, Br.opX_inn, Br.opX_nin, Br.opX_len, Br.opX_sum, Br.opX_abs, Br.opX_int1, Br.opX_str1, Br.opX_tuple1, Br.opX_list1, Br.opX_sorted, Br.opX_allL, Br.opX_anyL, Br.opX_min2, Br.opX_max2, Br.opX_minL, Br.opX_maxL, Br.opX_idx, Br.opX_rev, Br.opX_dget, Br.opX_values, Br.opX_dmod, Br.opX_lcnt, Br.opX_tcnt, Br.opX_lidx, Br.opX_bits, Br.opX_sortedD, Br.opX_minD, Br.opX_maxD, Br.opX_isB, Br.opX_isNB, Br.opX_isTy, Br.opX_slc, Br.opX_isEx, Br.opX_dict1, Br.opX_tupleX, Br.dn_non, Br.dn_bl, Br.dn_int, Br.dn_str, Br.dn_ty, Br.dn_exc, Br.dn_tup, Br.dn_xt, Br.dn_lst, Br.dn_dK, Br.dn_dT, Br.dn_dn, Br.isD_dn, Br.eqP_dnl, Br.eqP_dnr, tupleXP, opSem, addP, subP, mulP, fdivP, modP, powP, negP, eqOP, neOP, ltOP, leOP, gtOP, geOP, isNP, isNNP, isBP, isNBP, PV.isNon, lenP, sumP, absP, int1P, str1P, tuple1P, list1P, min2P, max2P, idxP, slcP, slcPart, dmodP, isTyOP, isTys, isTyP, tyName, ownV, Op.new, wipeE, Br.backE_nil, Br.backE_cons, Br.froO_f, Br.froO_n, Br.froO_0, Br.froO_o, seqOf, parE, ownL, keyP, recvOk, PV.isD, PV.isT, Br.eqP_ii, Br.eqP_ss, Br.eqP_bb, Br.eqP_nn, Br.eqP_tt, Br.eqP_ll, Br.eqPs_00, Br.eqPs_0c, Br.eqPs_c0, Br.eqPs_cc, Br.eqPs_ints, Br.eqP_xl, Br.eqP_xr, Br.eqP_ni, Br.eqP_ns, Br.eqP_nt, Br.eqP_nl, Br.eqP_nb, Br.eqP_in, Br.eqP_is, Br.eqP_it, Br.eqP_il, Br.eqP_sn, Br.eqP_si, Br.eqP_st, Br.eqP_sl, Br.eqP_sb, Br.eqP_tn, Br.eqP_ti, Br.eqP_ts, Br.eqP_tl, Br.eqP_tb, Br.eqP_ln, Br.eqP_li, Br.eqP_ls, Br.eqP_lt, Br.eqP_lb, Br.eqP_bn, Br.eqP_bs, Br.eqP_bt, Br.eqP_bl, intsOf, List.getElem?_cons_zero, List.getElem?_cons_succ, List.getElem?_nil, List.set_cons_zero, List.set_cons_succ, List.map_cons, List.map_nil, List.cons_append, List.nil_append, List.length_cons, List.length_nil, List.replicate_succ, List.replicate_zero, List.append_nil, Option.bind_some, Option.bind_none, Option.map_some, Option.map_none, if_true, if_false, ite_true, ite_false, decide_true, decide_false, Bool.and_true, Bool.true_and, Bool.not_true, Bool.not_false, reduceIte, Option.isSome_some, Br.kit_NoneType_int, Br.kit_NoneType_bool, Br.kit_NoneType_str, Br.kit_NoneType_tuple, Br.kit_NoneType_list, Br.kit_NoneType_dict, Br.kit_bool_int, Br.kit_bool_bool, Br.kit_bool_str, Br.kit_bool_tuple, Br.kit_bool_list, Br.kit_bool_dict, Br.kit_int_int, Br.kit_int_bool, Br.kit_int_str, Br.kit_int_tuple, Br.kit_int_list, Br.kit_int_dict, Br.kit_str_int, Br.kit_str_bool, Br.kit_str_str, Br.kit_str_tuple, Br.kit_str_list, Br.kit_str_dict, Br.kit_tuple_int, Br.kit_tuple_bool, Br.kit_tuple_str, Br.kit_tuple_tuple, Br.kit_tuple_list, Br.kit_tuple_dict, Br.kit_list_int, Br.kit_list_bool, Br.kit_list_str, Br.kit_list_tuple, Br.kit_list_list, Br.kit_list_dict, Br.kit_dict_int, Br.kit_dict_bool, Br.kit_dict_str, Br.kit_dict_tuple, Br.kit_dict_list, Br.kit_dict_dict, L2.ixN, Br.rng_ok, Br.mul_ok_r, Br.mul_ok_l, LIM, Br.PV.i_int, Br.log2_lt_9000, Br.atI_0, Br.atI_1, Br.atI_2, lcntP, lidxP, bitsP, revP, cntP, sortedDP, minDP, maxDP, sortX, Br.x_try, Br.tryK_nx, Br.tryK_rt, Br.tryK_bk, Br.tryK_ct, Br.suiteX_nx, Br.suiteX_bk, Br.suiteX_ct, Br.suiteX_rt, Br.setX_some, Br.setX_none, Br.goneX_some, Br.goneX_none, Br.x_lock, Br.kLock_d, Br.lockR_nx, Br.lockR_rt, Br.l_callT', Br.v_callT, Br.kT1, Br.kT2, Br.kT3, Br.kT4_eq, Br.dropT_ok, Br.dropT_ex, Br.dropT_st, Br.sh_val, Br.sh_ref, Br.kXt, Br.v_xtup, Br.l_xtup, Br.lockV_s, Br.thin_0, Br.thin_c, Br.thinO_n, Br.thinO_s, Br.thinL_f, Br.thinL_l, Br.thinL_d, Br.thinL_t, Br.noD_n, Br.noD_b, Br.noD_i, Br.noD_s, Br.noD_e, Br.noD_t, Br.noD_x, Br.noD_l, Br.noD_d, Br.noDs_0, Br.noDs_c, Br.noDs_i, ph_law_changed_right_6199, c12, c12', e6, e7, hg3', z6, z7, hcl, hr13, hr1, hl13, -List.map_map]
    rw [compL_map (few a4), es9]
    simp -implicitDefEqProofs [ioOk, Br.frameOf, lvsOf, Br.exSs_nil, Br.exSs_cons, SO.seq_nx, SO.seq_rt, SO.seq_ex, SO.seq_bk, SO.seq_ct, SO.seq_st, SO.fin_nx, SO.fin_rt, SO.fin_ex, Br.v_app, Br.v_mth, Br.v_tup, Br.v_lst, Br.v_cst, Br.v_dnew, Br.v_var, Br.v_call, Br.v_and, Br.v_or, Br.v_not, Br.v_ite, Br.v_chain, Br.v_sl2, Br.v_comp, Br.v_aref, Br.v_aval, Br.v_as0, Br.v_as, Br.v_es0, Br.v_es, Br.v_tand, Br.v_tor, Br.v_tnot, Br.v_te, Br.v_ts0, Br.v_ts1, Br.v_seq, Br.v_rng1, Br.v_rng2, Br.v_enum, Br.v_zip, Br.v_popE, Br.v_dispV, Br.l_dispV', Br.v_popL, Br.l_popE, Br.l_popL, Br.kPopE_eq, Br.putE_some, Br.putE_none, Br.v_rev, Br.l_app, Br.l_mth', Br.l_lst', Br.l_dnew', Br.l_call', Br.l_comp', Br.l_var, Br.l_cst, Br.l_tup, Br.l_and, Br.l_or, Br.l_not, Br.l_ite, Br.l_chain, Br.l_sl2, Br.x_set, Br.x_unp, Br.x_par, Br.x_setIx, Br.x_app, Br.x_ext, Br.x_popA, Br.x_insA, Br.kPopA, Br.kIns1, Br.kIns2, Br.x_ex, Br.x_ret, Br.x_retV, Br.x_retN, Br.x_if, Br.x_whl, Br.x_brk, Br.x_cont, Br.x_pass, Br.x_raise, Br.kOp, Br.kVal, Br.kCons, Br.kAs, Br.kConsE, Br.kEs, Br.kTup, Br.kLst, Br.kCall, Br.kMth2, Br.kMth, Br.kAnd, Br.kOr, Br.kNot, Br.kIte, Br.kCh4, Br.kCh3, Br.kCh2b, Br.kCh2, Br.kCh1, Br.kS3, Br.kS2, Br.kS1, Br.kC6, Br.kC5, Br.kC4, Br.kC3, Br.kC0, Br.kC2, Br.kC1, Br.kTand, Br.kTor, Br.kTnot, Br.kTe, Br.kSeq, Br.kR1, Br.kR3, Br.kR2, Br.kEn, Br.kZ2, Br.kZ1, Br.kRv, Br.kOwn, Br.kFro, Br.kOwnV, Br.kCallL, Br.kSet, Br.kUnp, Br.kPar, Br.kSI2, Br.kSI1, Br.kApp, Br.kExt, Br.kEx, Br.kRet, Br.kIf, Br.kFor, Br.ifE_t, Br.ifE_f, Br.ifS_t, Br.ifS_f, Br.okE_eq, Br.cF, Br.x_for, ne_eq, reduceCtorEq, not_false_eq_true, implies_true, ER.bind_ok, ER.bind_ex, ER.bind_st, ER.so_ok, ER.so_ex, ER.so_st, ER.of_some, ER.of_none, SO.of_some, SO.of_none, Br.bindS_k, Br.bindK_some, Br.bindK_none, Tg.bind, Tg.binds, at', setIxP, AV.pvs, AV.pv, AV.lvs, AV.lv, AV.refs, AV.back, maskL, LV.isFro, LV.pv, Br.callE_k, Br.callK0_some, Br.callK_ok, Br.callK_ex, froE, Br.opX_add, Br.opX_sub, Br.opX_mul, Br.opX_fdiv, Br.opX_mod, Br.opX_pow, Br.opX_neg, Br.opX_eq, Br.opX_ne, Br.opX_lt, Br.opX_le, Br.opX_gt, Br.opX_ge, Br.opX_isN, Br.opX_isNN, Br.opX_inn, Br.opX_nin, Br.opX_len, Br.opX_sum, Br.opX_abs, Br.opX_int1, Br.opX_str1, Br.opX_tuple1, Br.opX_list1, Br.opX_sorted, Br.opX_allL, Br.opX_anyL, Br.opX_min2, Br.opX_max2, Br.opX_minL, Br.opX_maxL, Br.opX_idx, Br.opX_rev, Br.opX_dget, Br.opX_values, Br.opX_dmod, Br.opX_lcnt, Br.opX_tcnt, Br.opX_lidx, Br.opX_bits, Br.opX_sortedD, Br.opX_minD, Br.opX_maxD, Br.opX_isB, Br.opX_isNB, Br.opX_isTy, Br.opX_slc, Br.opX_isEx, Br.opX_dict1, Br.opX_tupleX, Br.dn_non, Br.dn_bl, Br.dn_int, Br.dn_str, Br.dn_ty, Br.dn_exc, Br.dn_tup, Br.dn_xt, Br.dn_lst, Br.dn_dK, Br.dn_dT, Br.dn_dn, Br.isD_dn, Br.eqP_dnl, Br.eqP_dnr, tupleXP, opSem, addP, subP, mulP, fdivP, modP, powP, negP, eqOP, neOP, ltOP, leOP, gtOP, geOP, isNP, isNNP, isBP, isNBP, PV.isNon, lenP, sumP, absP, int1P, str1P, tuple1P, list1P, min2P, max2P, idxP, slcP, slcPart, dmodP, isTyOP, isTys, isTyP, tyName, ownV, Op.new, wipeE, Br.backE_nil, Br.backE_cons, Br.froO_f, Br.froO_n, Br.froO_0, Br.froO_o, seqOf, parE, ownL, keyP, recvOk, PV.isD, PV.isT, Br.eqP_ii, Br.eqP_ss, Br.eqP_bb, Br.eqP_nn, Br.eqP_tt, Br.eqP_ll, Br.eqPs_00, Br.eqPs_0c, Br.eqPs_c0, Br.eqPs_cc, Br.eqPs_ints, Br.eqP_xl, Br.eqP_xr, Br.eqP_ni, Br.eqP_ns, Br.eqP_nt, Br.eqP_nl, Br.eqP_nb, Br.eqP_in, Br.eqP_is, Br.eqP_it, Br.eqP_il, Br.eqP_sn, Br.eqP_si, Br.eqP_st, Br.eqP_sl, Br.eqP_sb, Br.eqP_tn, Br.eqP_ti, Br.eqP_ts, Br.eqP_tl, Br.eqP_tb, Br.eqP_ln, Br.eqP_li, Br.eqP_ls, Br.eqP_lt, Br.eqP_lb, Br.eqP_bn, Br.eqP_bs, Br.eqP_bt, Br.eqP_bl, intsOf, List.getElem?_cons_zero, List.getElem?_cons_succ, List.getElem?_nil, List.set_cons_zero, List.set_cons_succ, List.map_cons, List.map_nil, List.cons_append, List.nil_append, List.length_cons, List.length_nil, List.replicate_succ, List.replicate_zero, List.append_nil, Option.bind_some, Option.bind_none, Option.map_some, Option.map_none, if_true, if_false, ite_true, ite_false, decide_true, decide_false, Bool.and_true, Bool.true_and, Bool.not_true, Bool.not_false, reduceIte, Option.isSome_some, Br.kit_NoneType_int, Br.kit_NoneType_bool, Br.kit_NoneType_str, Br.kit_NoneType_tuple, Br.kit_NoneType_list, Br.kit_NoneType_dict, Br.kit_bool_int, Br.kit_bool_bool, Br.kit_bool_str, Br.kit_bool_tuple, Br.kit_bool_list, Br.kit_bool_dict, Br.kit_int_int, Br.kit_int_bool, Br.kit_int_str, Br.kit_int_tuple, Br.kit_int_list, Br.kit_int_dict, Br.kit_str_int, Br.kit_str_bool, Br.kit_str_str, Br.kit_str_tuple, Br.kit_str_list, Br.kit_str_dict, Br.kit_tuple_int, Br.kit_tuple_bool, Br.kit_tuple_str, Br.kit_tuple_tuple, Br.kit_tuple_list, Br.kit_tuple_dict, Br.kit_list_int, Br.kit_list_bool, Br.kit_list_str, Br.kit_list_tuple, Br.kit_list_list, Br.kit_list_dict, Br.kit_dict_int, Br.kit_dict_bool, Br.kit_dict_str, Br.kit_dict_tuple, Br.kit_dict_list, Br.kit_dict_dict, L2.ixN, Br.rng_ok, Br.mul_ok_r, Br.mul_ok_l, LIM, Br.PV.i_int, Br.log2_lt_9000, Br.atI_0, Br.atI_1, Br.atI_2, lcntP, lidxP, bitsP, revP, cntP, sortedDP, minDP, maxDP, sortX, Br.x_try, Br.tryK_nx, Br.tryK_rt, Br.tryK_bk, Br.tryK_ct, Br.suiteX_nx, Br.suiteX_bk, Br.suiteX_ct, Br.suiteX_rt, Br.setX_some, Br.setX_none, Br.goneX_some, Br.goneX_none, Br.x_lock, Br.kLock_d, Br.lockR_nx, Br.lockR_rt, Br.l_callT', Br.v_callT, Br.kT1, Br.kT2, Br.kT3, Br.kT4_eq, Br.dropT_ok, Br.dropT_ex, Br.dropT_st, Br.sh_val, Br.sh_ref, Br.kXt, Br.v_xtup, Br.l_xtup, Br.lockV_s, Br.thin_0, Br.thin_c, Br.thinO_n, Br.thinO_s, Br.thinL_f, Br.thinL_l, Br.thinL_d, Br.thinL_t, Br.noD_n, Br.noD_b, Br.noD_i, Br.noD_s, Br.noD_e, Br.noD_t, Br.noD_x, Br.noD_l, Br.noD_d, Br.noDs_0, Br.noDs_c, Br.noDs_i, ph_law_changed_right_6199, l9, hr11, hl11, -List.map_map]
    rw [compL_map (h := fun _ => .bl false) (any1 a4)]
    simp -implicitDefEqProofs [ioOk, Br.frameOf, lvsOf, Br.exSs_nil, Br.exSs_cons, SO.seq_nx, SO.seq_rt, SO.seq_ex, SO.seq_bk, SO.seq_ct, SO.seq_st, SO.fin_nx, SO.fin_rt, SO.fin_ex, Br.v_app, Br.v_mth, Br.v_tup, Br.v_lst, Br.v_cst, Br.v_dnew, Br.v_var, Br.v_call, Br.v_and, Br.v_or, Br.v_not, Br.v_ite, Br.v_chain, Br.v_sl2, Br.v_comp, Br.v_aref, Br.v_aval, Br.v_as0, Br.v_as, Br.v_es0, Br.v_es, Br.v_tand, Br.v_tor, Br.v_tnot, Br.v_te, Br.v_ts0, Br.v_ts1, Br.v_seq, Br.v_rng1, Br.v_rng2, Br.v_enum, Br.v_zip, Br.v_popE, Br.v_dispV, Br.l_dispV', Br.v_popL, Br.l_popE, Br.l_popL, Br.kPopE_eq, Br.putE_some, Br.putE_none, Br.v_rev, Br.l_app, Br.l_mth', Br.l_lst', Br.l_dnew', Br.l_call', Br.l_comp', Br.l_var, Br.l_cst, Br.l_tup, Br.l_and, Br.l_or, Br.l_not, Br.l_ite, Br.l_chain, Br.l_sl2, Br.x_set, Br.x_unp, Br.x_par, Br.x_setIx, Br.x_app, Br.x_ext, Br.x_popA, Br.x_insA, Br.kPopA, Br.kIns1, Br.kIns2, Br.x_ex, Br.x_ret, Br.x_retV, Br.x_retN, Br.x_if, Br.x_whl, Br.x_brk, Br.x_cont, Br.x_pass, Br.x_raise, Br.kOp, Br.kVal, Br.kCons, Br.kAs, Br.kConsE, Br.kEs, Br.kTup, Br.kLst, Br.kCall, Br.kMth2, Br.kMth, Br.kAnd, Br.kOr, Br.kNot, Br.kIte, Br.kCh4, Br.kCh3, Br.kCh2b, Br.kCh2, Br.kCh1, Br.kS3, Br.kS2, Br.kS1, Br.kC6, Br.kC5, Br.kC4, Br.kC3, Br.kC0, Br.kC2, Br.kC1, Br.kTand, Br.kTor, Br.kTnot, Br.kTe, Br.kSeq, Br.kR1, Br.kR3, Br.kR2, Br.kEn, Br.kZ2, Br.kZ1, Br.kRv, Br.kOwn, Br.kFro, Br.kOwnV, Br.kCallL, Br.kSet, Br.kUnp, Br.kPar, Br.kSI2, Br.kSI1, Br.kApp, Br.kExt, Br.kEx, Br.kRet, Br.kIf, Br.kFor, Br.ifE_t, Br.ifE_f, Br.ifS_t, Br.ifS_f, Br.okE_eq, Br.cF, Br.x_for, ne_eq, reduceCtorEq, not_false_eq_true, implies_true, ER.bind_ok, ER.bind_ex, ER.bind_st, ER.so_ok, ER.so_ex, ER.so_st, ER.of_some, ER.of_none, SO.of_some, SO.of_none, Br.bindS_k, Br.bindK_some, Br.bindK_none, Tg.bind, Tg.binds, at', setIxP, AV.pvs, AV.pv, AV.lvs, AV.lv, AV.refs, AV.back, maskL, LV.isFro, LV.pv, Br.callE_k, Br.callK0_some, Br.callK_ok, Br.callK_ex, froE, Br.opX_add, Br.opX_sub, Br.opX_mul, Br.opX_fdiv, Br.opX_mod, Br.opX_pow, Br.opX_neg, Br.opX_eq, Br.opX_ne, Br.opX_lt, Br.opX_le, Br.opX_gt, Br.opX_ge, Br.opX_isN, Br.opX_isNN, Br.opX_inn, Br.opX_nin, Br.opX_len, Br.opX_sum, Br.opX_abs, Br.opX_int1, Br.opX_str1, Br.opX_tuple1, Br.opX_list1, Br.opX_sorted, Br.opX_allL, Br.opX_anyL, Br.opX_min2, Br.opX_max2, Br.opX_minL, Br.opX_maxL, Br.opX_idx, Br.opX_rev, Br.opX_dget, Br.opX_values, Br.opX_dmod, Br.opX_lcnt, Br.opX_tcnt, Br.opX_lidx, Br.opX_bits, Br.opX_sortedD, Br.opX_minD, Br.opX_maxD, Br.opX_isB, Br.opX_isNB, Br.opX_isTy, Br.opX_slc, Br.opX_isEx, Br.opX_dict1, Br.opX_tupleX, Br.dn_non, Br.dn_bl, Br.dn_int, Br.dn_str, Br.dn_ty, Br.dn_exc, Br.dn_tup, Br.dn_xt, Br.dn_lst, Br.dn_dK, Br.dn_dT, Br.dn_dn, Br.isD_dn, Br.eqP_dnl, Br.eqP_dnr, tupleXP, opSem, addP, subP, mulP, fdivP, modP, powP, negP, eqOP, neOP, ltOP, leOP, gtOP, geOP, isNP, isNNP, isBP, isNBP, PV.isNon, lenP, sumP, absP, int1P, str1P, tuple1P, list1P, min2P, max2P, idxP, slcP, slcPart, dmodP, isTyOP, isTys, isTyP, tyName, ownV, Op.new, wipeE, Br.backE_nil, Br.backE_cons, Br.froO_f, Br.froO_n, Br.froO_0, Br.froO_o, seqOf, parE, ownL, keyP, recvOk, PV.isD, PV.isT, Br.eqP_ii, Br.eqP_ss, Br.eqP_bb, Br.eqP_nn, Br.eqP_tt, Br.eqP_ll, Br.eqPs_00, Br.eqPs_0c, Br.eqPs_c0, Br.eqPs_cc, Br.eqPs_ints, Br.eqP_xl, Br.eqP_xr, Br.eqP_ni, Br.eqP_ns, Br.eqP_nt, Br.eqP_nl, Br.eqP_nb, Br.eqP_in, Br.eqP_is, Br.eqP_it, Br.eqP_il, Br.eqP_sn, Br.eqP_si, Br.eqP_st, Br.eqP_sl, Br.eqP_sb, Br.eqP_tn, Br.eqP_ti, Br.eqP_ts, Br.eqP_tl, Br.eqP_tb, Br.eqP_ln, Br.eqP_li, Br.eqP_ls, Br.eqP_lt, Br.eqP_lb, Br.eqP_bn, Br.eqP_bs, Br.eqP_bt, Br.eqP_bl, intsOf, List.getElem?_cons_zero, List.getElem?_cons_succ, List.getElem?_nil, List.set_cons_zero, List.set_cons_succ, List.map_cons, List.map_nil, List.cons_append, List.nil_append, List.length_cons, List.length_nil, List.replicate_succ, List.replicate_zero, List.append_nil, Option.bind_some, Option.bind_none, Option.map_some, Option.map_none, if_true, if_false, ite_true, ite_false, decide_true, decide_false, Bool.and_true, Bool.true_and, Bool.not_true, Bool.not_false, reduceIte, Option.isSome_some, Br.kit_NoneType_int, Br.kit_NoneType_bool, Br.kit_NoneType_str, Br.kit_NoneType_tuple, Br.kit_NoneType_list, Br.kit_NoneType_dict, Br.kit_bool_int, Br.kit_bool_bool, Br.kit_bool_str, Br.kit_bool_tuple, Br.kit_bool_list, Br.kit_bool_dict, Br.kit_int_int, Br.kit_int_bool, Br.kit_int_str, Br.kit_int_tuple, Br.kit_int_list, Br.kit_int_dict, Br.kit_str_int, Br.kit_str_bool, Br.kit_str_str, Br.kit_str_tuple, Br.kit_str_list, Br.kit_str_dict, Br.kit_tuple_int, Br.kit_tuple_bool, Br.kit_tuple_str, Br.kit_tuple_tuple, Br.kit_tuple_list, Br.kit_tuple_dict, Br.kit_list_int, Br.kit_list_bool, Br.kit_list_str, Br.kit_list_tuple, Br.kit_list_list, Br.kit_list_dict, Br.kit_dict_int, Br.kit_dict_bool, Br.kit_dict_str, Br.kit_dict_tuple, Br.kit_dict_list, Br.kit_dict_dict, L2.ixN, Br.rng_ok, Br.mul_ok_r, Br.mul_ok_l, LIM, Br.PV.i_int, Br.log2_lt_9000, Br.atI_0, Br.atI_1, Br.atI_2, lcntP, lidxP, bitsP, revP, cntP, sortedDP, minDP, maxDP, sortX, Br.x_try, Br.tryK_nx, Br.tryK_rt, Br.tryK_bk, Br.tryK_ct, Br.suiteX_nx, Br.suiteX_bk, Br.suiteX_ct, Br.suiteX_rt, Br.setX_some, Br.setX_none, Br.goneX_some, Br.goneX_none, Br.x_lock, Br.kLock_d, Br.lockR_nx, Br.lockR_rt, Br.l_callT', Br.v_callT, Br.kT1, Br.kT2, Br.kT3, Br.kT4_eq, Br.dropT_ok, Br.dropT_ex, Br.dropT_st, Br.sh_val, Br.sh_ref, Br.kXt, Br.v_xtup, Br.l_xtup, Br.lockV_s, Br.thin_0, Br.thin_c, Br.thinO_n, Br.thinO_s, Br.thinL_f, Br.thinL_l, Br.thinL_d, Br.thinL_t, Br.noD_n, Br.noD_b, Br.noD_i, Br.noD_s, Br.noD_e, Br.noD_t, Br.noD_x, Br.noD_l, Br.noD_d, Br.noDs_0, Br.noDs_c, Br.noDs_i, ph_law_changed_right_6199, anyL_false, hl11, hcut, hcl, -List.map_map]
    rw [compL_map (h := fun _ => .bl false) (any2 a4)]
    simp -implicitDefEqProofs [ioOk, Br.frameOf, lvsOf, Br.exSs_nil, Br.exSs_cons, SO.seq_nx, SO.seq_rt, SO.seq_ex, SO.seq_bk, SO.seq_ct, SO.seq_st, SO.fin_nx, SO.fin_rt, SO.fin_ex, Br.v_app, Br.v_mth, Br.v_tup, Br.v_lst, Br.v_cst, Br.v_dnew, Br.v_var, Br.v_call, Br.v_and, Br.v_or, Br.v_not, Br.v_ite, Br.v_chain, Br.v_sl2, Br.v_comp, Br.v_aref, Br.v_aval, Br.v_as0, Br.v_as, Br.v_es0, Br.v_es, Br.v_tand, Br.v_tor, Br.v_tnot, Br.v_te, Br.v_ts0, Br.v_ts1, Br.v_seq, Br.v_rng1, Br.v_rng2, Br.v_enum, Br.v_zip, Br.v_popE, Br.v_dispV, Br.l_dispV', Br.v_popL, Br.l_popE, Br.l_popL, Br.kPopE_eq, Br.putE_some, Br.putE_none, Br.v_rev, Br.l_app, Br.l_mth', Br.l_lst', Br.l_dnew', Br.l_call', Br.l_comp', Br.l_var, Br.l_cst, Br.l_tup, Br.l_and, Br.l_or, Br.l_not, Br.l_ite, Br.l_chain, Br.l_sl2, Br.x_set, Br.x_unp, Br.x_par, Br.x_setIx, Br.x_app, Br.x_ext, Br.x_popA, Br.x_insA, Br.kPopA, Br.kIns1, Br.kIns2, Br.x_ex, Br.x_ret, Br.x_retV, Br.x_retN, Br.x_if, Br.x_whl, Br.x_brk, Br.x_cont, Br.x_pass, Br.x_raise, Br.kOp, Br.kVal, Br.kCons, Br.kAs, Br.kConsE, Br.kEs, Br.kTup, Br.kLst, Br.kCall, Br.kMth2, Br.kMth, Br.kAnd, Br.kOr, Br.kNot, Br.kIte, Br.kCh4, Br.kCh3, Br.kCh2b, Br.kCh2, Br.kCh1, Br.kS3, Br.kS2, Br.kS1, Br.kC6, Br.kC5, Br.kC4, Br.kC3, Br.kC0, Br.kC2, Br.kC1, Br.kTand, Br.kTor, Br.kTnot, Br.kTe, Br.kSeq, Br.kR1, Br.kR3, Br.kR2, Br.kEn, Br.kZ2, Br.kZ1, Br.kRv, Br.kOwn, Br.kFro, Br.kOwnV, Br.kCallL, Br.kSet, Br.kUnp, Br.kPar, Br.kSI2, Br.kSI1, Br.kApp, Br.kExt, Br.kEx, Br.kRet, Br.kIf, Br.kFor, Br.ifE_t, Br.ifE_f, Br.ifS_t, Br.ifS_f, Br.okE_eq, Br.cF, Br.x_for, ne_eq, reduceCtorEq, not_false_eq_true, implies_true, ER.bind_ok, ER.bind_ex, ER.bind_st, ER.so_ok, ER.so_ex, ER.so_st, ER.of_some, ER.of_none, SO.of_some, SO.of_none, Br.bindS_k, Br.bindK_some, Br.bindK_none, Tg.bind, Tg.binds, at', setIxP, AV.pvs, AV.pv, AV.lvs, AV.lv, AV.refs, AV.back, maskL, LV.isFro, LV.pv, Br.callE_k, Br.callK0_some, Br.callK_ok, Br.callK_ex, froE, Br.opX_add, Br.opX_sub, Br.opX_mul, Br.opX_fdiv, Br.opX_mod, Br.opX_pow, Br.opX_neg, Br.opX_eq, Br.opX_ne, Br.opX_lt, Br.opX_le, Br.opX_gt, Br.opX_ge, Br.opX_isN, Br.opX_isNN, Br.opX_inn, Br.opX_nin, Br.opX_len, Br.opX_sum, Br.opX_abs, Br.opX_int1, Br.opX_str1, Br.opX_tuple1, Br.opX_list1, Br.opX_sorted, Br.opX_allL, Br.opX_anyL, Br.opX_min2, Br.opX_max2, Br.opX_minL, Br.opX_maxL, Br.opX_idx, Br.opX_rev, Br.opX_dget, Br.opX_values, Br.opX_dmod, Br.opX_lcnt, Br.opX_tcnt, Br.opX_lidx, Br.opX_bits, Br.opX_sortedD, Br.opX_minD, Br.opX_maxD, Br.opX_isB, Br.opX_isNB, Br.opX_isTy, Br.opX_slc, Br.opX_isEx, Br.opX_dict1, Br.opX_tupleX, Br.dn_non, Br.dn_bl, Br.dn_int, Br.dn_str, Br.dn_ty, Br.dn_exc, Br.dn_tup, Br.dn_xt, Br.dn_lst, Br.dn_dK, Br.dn_dT, Br.dn_dn, Br.isD_dn, Br.eqP_dnl, Br.eqP_dnr, tupleXP, opSem, addP, subP, mulP, fdivP, modP, powP, negP, eqOP, neOP, ltOP, leOP, gtOP, geOP, isNP, isNNP, isBP, isNBP, PV.isNon, lenP, sumP, absP, int1P, str1P, tuple1P, list1P, min2P, max2P, idxP, slcP, slcPart, dmodP, isTyOP, isTys, isTyP, tyName, ownV, Op.new, wipeE, Br.backE_nil, Br.backE_cons, Br.froO_f, Br.froO_n, Br.froO_0, Br.froO_o, seqOf, parE, ownL, keyP, recvOk, PV.isD, PV.isT, Br.eqP_ii, Br.eqP_ss, Br.eqP_bb, Br.eqP_nn, Br.eqP_tt, Br.eqP_ll, Br.eqPs_00, Br.eqPs_0c, Br.eqPs_c0, Br.eqPs_cc, Br.eqPs_ints, Br.eqP_xl, Br.eqP_xr, Br.eqP_ni, Br.eqP_ns, Br.eqP_nt, Br.eqP_nl, Br.eqP_nb, Br.eqP_in, Br.eqP_is, Br.eqP_it, Br.eqP_il, Br.eqP_sn, Br.eqP_si, Br.eqP_st, Br.eqP_sl, Br.eqP_sb, Br.eqP_tn, Br.eqP_ti, Br.eqP_ts, Br.eqP_tl, Br.eqP_tb, Br.eqP_ln, Br.eqP_li, Br.eqP_ls, Br.eqP_lt, Br.eqP_lb, Br.eqP_bn, Br.eqP_bs, Br.eqP_bt, Br.eqP_bl, intsOf, List.getElem?_cons_zero, List.getElem?_cons_succ, List.getElem?_nil, List.set_cons_zero, List.set_cons_succ, List.map_cons, List.map_nil, List.cons_append, List.nil_append, List.length_cons, List.length_nil, List.replicate_succ, List.replicate_zero, List.append_nil, Option.bind_some, Option.bind_none, Option.map_some, Option.map_none, if_true, if_false, ite_true, ite_false, decide_true, decide_false, Bool.and_true, Bool.true_and, Bool.not_true, Bool.not_false, reduceIte, Option.isSome_some, Br.kit_NoneType_int, Br.kit_NoneType_bool, Br.kit_NoneType_str, Br.kit_NoneType_tuple, Br.kit_NoneType_list, Br.kit_NoneType_dict, Br.kit_bool_int, Br.kit_bool_bool, Br.kit_bool_str, Br.kit_bool_tuple, Br.kit_bool_list, Br.kit_bool_dict, Br.kit_int_int, Br.kit_int_bool, Br.kit_int_str, Br.kit_int_tuple, Br.kit_int_list, Br.kit_int_dict, Br.kit_str_int, Br.kit_str_bool, Br.kit_str_str, Br.kit_str_tuple, Br.kit_str_list, Br.kit_str_dict, Br.kit_tuple_int, Br.kit_tuple_bool, Br.kit_tuple_str, Br.kit_tuple_tuple, Br.kit_tuple_list, Br.kit_tuple_dict, Br.kit_list_int, Br.kit_list_bool, Br.kit_list_str, Br.kit_list_tuple, Br.kit_list_list, Br.kit_list_dict, Br.kit_dict_int, Br.kit_dict_bool, Br.kit_dict_str, Br.kit_dict_tuple, Br.kit_dict_list, Br.kit_dict_dict, L2.ixN, Br.rng_ok, Br.mul_ok_r, Br.mul_ok_l, LIM, Br.PV.i_int, Br.log2_lt_9000, Br.atI_0, Br.atI_1, Br.atI_2, lcntP, lidxP, bitsP, revP, cntP, sortedDP, minDP, maxDP, sortX, Br.x_try, Br.tryK_nx, Br.tryK_rt, Br.tryK_bk, Br.tryK_ct, Br.suiteX_nx, Br.suiteX_bk, Br.suiteX_ct, Br.suiteX_rt, Br.setX_some, Br.setX_none, Br.goneX_some, Br.goneX_none, Br.x_lock, Br.kLock_d, Br.lockR_nx, Br.lockR_rt, Br.l_callT', Br.v_callT, Br.kT1, Br.kT2, Br.kT3, Br.kT4_eq, Br.dropT_ok, Br.dropT_ex, Br.dropT_st, Br.sh_val, Br.sh_ref, Br.kXt, Br.v_xtup, Br.l_xtup, Br.lockV_s, Br.thin_0, Br.thin_c, Br.thinO_n, Br.thinO_s, Br.thinL_f, Br.thinL_l, Br.thinL_d, Br.thinL_t, Br.noD_n, Br.noD_b, Br.noD_i, Br.noD_s, Br.noD_e, Br.noD_t, Br.noD_x, Br.noD_l, Br.noD_d, Br.noDs_0, Br.noDs_c, Br.noDs_i, -maxDP, ph_law_changed_right_6199, anyL_false, hcut, hmx, at90, at91, f0, f1, hcl, ha4, -List.map_map]
  · have c12' : ¬ (cs.length : Int) < 12 := by omega
    simp -implicitDefEqProofs [ioOk, Br.frameOf, lvsOf, Br.exSs_nil, Br.exSs_cons, SO.seq_nx, SO.seq_rt, SO.seq_ex, SO.seq_bk, SO.seq_ct, SO.seq_st, SO.fin_nx, SO.fin_rt, SO.fin_ex, Br.v_app, Br.v_mth, Br.v_tup, Br.v_lst, Br.v_cst, Br.v_dnew, Br.v_var, Br.v_call, Br.v_and, Br.v_or, Br.v_not, Br.v_ite, Br.v_chain, Br.v_sl2, Br.v_comp, Br.v_aref, Br.v_aval, Br.v_as0, Br.v_as, Br.v_es0, Br.v_es, Br.v_tand, Br.v_tor, Br.v_tnot, Br.v_te, Br.v_ts0, Br.v_ts1, Br.v_seq, Br.v_rng1, Br.v_rng2, Br.v_enum, Br.v_zip, Br.v_popE, Br.v_dispV, Br.l_dispV', Br.v_popL, Br.l_popE, Br.l_popL, Br.kPopE_eq, Br.putE_some, Br.putE_none, Br.v_rev, Br.l_app, Br.l_mth', Br.l_lst', Br.l_dnew', Br.l_call', Br.l_comp', Br.l_var, Br.l_cst, Br.l_tup, Br.l_and, Br.l_or, Br.l_not, Br.l_ite, Br.l_chain, Br.l_sl2, Br.x_set, Br.x_unp, Br.x_par, Br.x_setIx, Br.x_app, Br.x_ext, Br.x_popA, Br.x_insA, Br.kPopA, Br.kIns1, Br.kIns2, Br.x_ex, Br.x_ret, Br.x_retV, Br.x_retN, Br.x_if, Br.x_whl, Br.x_brk, Br.x_cont, Br.x_pass, Br.x_raise, Br.kOp, Br.kVal, Br.kCons, Br.kAs, Br.kConsE, Br.kEs, Br.kTup, Br.kLst, Br.kCall, Br.kMth2, Br.kMth, Br.kAnd, Br.kOr, Br.kNot, Br.kIte, Br.kCh4, Br.kCh3, Br.kCh2b, Br.kCh2, Br.kCh1, Br.kS3, Br.kS2, Br.kS1, Br.kC6, Br.kC5, Br.kC4, Br.kC3, Br.kC0, Br.kC2, Br.kC1, Br.kTand, Br.kTor, Br.kTnot, Br.kTe, Br.kSeq, Br.kR1, Br.kR3, Br.kR2, Br.kEn, Br.kZ2, Br.kZ1, Br.kRv, Br.kOwn, Br.kFro, Br.kOwnV, Br.kCallL, Br.kSet, Br.kUnp, Br.kPar, Br.kSI2, Br.kSI1, Br.kApp, Br.kExt, Br.kEx, Br.kRet, Br.kIf, Br.kFor, Br.ifE_t, Br.ifE_f, Br.ifS_t, Br.ifS_f, Br.okE_eq, Br.cF, Br.x_for, ne_eq, reduceCtorEq, not_false_eq_true, implies_true, ER.bind_ok, ER.bind_ex, ER.bind_st, ER.so_ok, ER.so_ex, ER.so_st, ER.of_some, ER.of_none, SO.of_some, SO.of_none, Br.bindS_k, Br.bindK_some, Br.bindK_none, Tg.bind, Tg.binds, at', setIxP, AV.pvs, AV.pv, AV.lvs, AV.lv, AV.refs, AV.back, maskL, LV.isFro, LV.pv, Br.callE_k, Br.callK0_some, Br.callK_ok, Br.callK_ex, froE, Br.opX_add, Br.opX_sub, Br.opX_mul, Br.opX_fdiv, Br.opX_mod, Br.opX_pow, Br.opX_neg, Br.opX_eq, Br.opX_ne, Br.opX_lt, Br.opX_le, Br.opX_gt, Br.opX_ge, Br.opX_isN, Br.opX_isNN, Br.opX_inn, Br.opX_nin, Br.opX_len, Br.opX_sum, Br.opX_abs, Br.opX_int1, Br.opX_str1, Br.opX_tuple1, Br.opX_list1, Br.opX_sorted, Br.opX_allL, Br.opX_anyL, Br.opX_min2, Br.opX_max2, Br.opX_minL, Br.opX_maxL, Br.opX_idx, Br.opX_rev, Br.opX_dget, Br.opX_values, Br.opX_dmod, Br.opX_lcnt, Br.opX_tcnt, Br.opX_lidx, Br.opX_bits, Br.opX_sortedD, Br.opX_minD, Br.opX_maxD, Br.opX_isB, Br.opX_isNB, Br.opX_isTy, Br.opX_slc, Br.opX_isEx, Br.opX_dict1, Br.opX_tupleX, Br.dn_non, Br.dn_bl, Br.dn_int, Br.dn_str, Br.dn_ty, Br.dn_exc, Br.dn_tup, Br.dn_xt, Br.dn_lst, Br.dn_dK, Br.dn_dT, Br.dn_dn, Br.isD_dn, Br.eqP_dnl, Br.eqP_dnr, tupleXP, opSem, addP, subP, mulP, fdivP, modP, powP, negP, eqOP, neOP, ltOP, leOP, gtOP, geOP, isNP, isNNP, isBP, isNBP, PV.isNon, lenP, sumP, absP, int1P, str1P, tuple1P, list1P, min2P, max2P, idxP, slcP, slcPart, dmodP, isTyOP, isTys, isTyP, tyName, ownV, Op.new, wipeE, Br.backE_nil, Br.backE_cons, Br.froO_f, Br.froO_n, Br.froO_0, Br.froO_o, seqOf, parE, ownL, keyP, recvOk, PV.isD, PV.isT, Br.eqP_ii, Br.eqP_ss, Br.eqP_bb, Br.eqP_nn, Br.eqP_tt, Br.eqP_ll, Br.eqPs_00, Br.eqPs_0c, Br.eqPs_c0, Br.eqPs_cc, Br.eqPs_ints, Br.eqP_xl, Br.eqP_xr, Br.eqP_ni, Br.eqP_ns, Br.eqP_nt, Br.eqP_nl, Br.eqP_nb, Br.eqP_in, Br.eqP_is, Br.eqP_it, Br.eqP_il, Br.eqP_sn, Br.eqP_si, Br.eqP_st, Br.eqP_sl, Br.eqP_sb, Br.eqP_tn, Br.eqP_ti, Br.eqP_ts, Br.eqP_tl, Br.eqP_tb, Br.eqP_ln, Br.eqP_li, Br.eqP_ls, Br.eqP_lt, Br.eqP_lb, Br.eqP_bn, Br.eqP_bs, Br.eqP_bt, Br.eqP_bl, intsOf, List.getElem?_cons_zero, List.getElem?_cons_succ, List.getElem?_nil, List.set_cons_zero, List.set_cons_succ, List.map_cons, List.map_nil, List.cons_append, List.nil_append, List.length_cons, List.length_nil, List.replicate_succ, List.replicate_zero, List.append_nil, Option.bind_some, Option.bind_none, Option.map_some, Option.map_none, if_true, if_false, ite_true, ite_false, decide_true, decide_false, Bool.and_true, Bool.true_and, Bool.not_true, Bool.not_false, reduceIte, Option.isSome_some, Br.kit_NoneType_int, Br.kit_NoneType_bool, Br.kit_NoneType_str, Br.kit_NoneType_tuple, Br.kit_NoneType_list, Br.kit_NoneType_dict, Br.kit_bool_int, Br.kit_bool_bool, Br.kit_bool_str, Br.kit_bool_tuple, Br.kit_bool_list, Br.kit_bool_dict, Br.kit_int_int, Br.kit_int_bool, Br.kit_int_str, Br.kit_int_tuple, Br.kit_int_list, Br.kit_int_dict, Br.kit_str_int, Br.kit_str_bool, Br.kit_str_str, Br.kit_str_tuple, Br.kit_str_list, Br.kit_str_dict, Br.kit_tuple_int, Br.kit_tuple_bool, Br.kit_tuple_str, Br.kit_tuple_tuple, Br.kit_tuple_list, Br.kit_tuple_dict, Br.kit_list_int, Br.kit_list_bool, Br.kit_list_str, Br.kit_list_tuple, Br.kit_list_list, Br.kit_list_dict, Br.kit_dict_int, Br.kit_dict_bool, Br.kit_dict_str, Br.kit_dict_tuple, Br.kit_dict_list, Br.kit_dict_dict, L2.ixN, Br.rng_ok, Br.mul_ok_r, Br.mul_ok_l, LIM, Br.PV.i_int, Br.log2_lt_9000, Br.atI_0, Br.atI_1, Br.atI_2, lcntP, lidxP, bitsP, revP, cntP, sortedDP, minDP, maxDP, sortX, Br.x_try, Br.tryK_nx, Br.tryK_rt, Br.tryK_bk, Br.tryK_ct, Br.suiteX_nx, Br.suiteX_bk, Br.suiteX_ct, Br.suiteX_rt, Br.setX_some, Br.setX_none, Br.goneX_some, Br.goneX_none, Br.x_lock, Br.kLock_d, Br.lockR_nx, Br.lockR_rt, Br.l_callT', Br.v_callT, Br.kT1, Br.kT2, Br.kT3, Br.kT4_eq, Br.dropT_ok, Br.dropT_ex, Br.dropT_st, Br.sh_val, Br.sh_ref, Br.kXt, Br.v_xtup, Br.l_xtup, Br.lockV_s, Br.thin_0, Br.thin_c, Br.thinO_n, Br.thinO_s, Br.thinL_f, Br.thinL_l, Br.thinL_d, Br.thinL_t, Br.noD_n, Br.noD_b, Br.noD_i, Br.noD_s, Br.noD_e, Br.noD_t, Br.noD_x, Br.noD_l, Br.noD_d, Br.noDs_0, Br.noDs_c, Br.noDs_i, ph_law_changed_right_6199, c12, c12', hcl, hr13, hr1, hl13, -List.map_map]
    rw [compL_map (few a3), es9]
    simp -implicitDefEqProofs [ioOk, Br.frameOf, lvsOf, Br.exSs_nil, Br.exSs_cons, SO.seq_nx, SO.seq_rt, SO.seq_ex, SO.seq_bk, SO.seq_ct, SO.seq_st, SO.fin_nx, SO.fin_rt, SO.fin_ex, Br.v_app, Br.v_mth, Br.v_tup, Br.v_lst, Br.v_cst, Br.v_dnew, Br.v_var, Br.v_call, Br.v_and, Br.v_or, Br.v_not, Br.v_ite, Br.v_chain, Br.v_sl2, Br.v_comp, Br.v_aref, Br.v_aval, Br.v_as0, Br.v_as, Br.v_es0, Br.v_es, Br.v_tand, Br.v_tor, Br.v_tnot, Br.v_te, Br.v_ts0, Br.v_ts1, Br.v_seq, Br.v_rng1, Br.v_rng2, Br.v_enum, Br.v_zip, Br.v_popE, Br.v_dispV, Br.l_dispV', Br.v_popL, Br.l_popE, Br.l_popL, Br.kPopE_eq, Br.putE_some, Br.putE_none, Br.v_rev, Br.l_app, Br.l_mth', Br.l_lst', Br.l_dnew', Br.l_call', Br.l_comp', Br.l_var, Br.l_cst, Br.l_tup, Br.l_and, Br.l_or, Br.l_not, Br.l_ite, Br.l_chain, Br.l_sl2, Br.x_set, Br.x_unp, Br.x_par, Br.x_setIx, Br.x_app, Br.x_ext, Br.x_popA, Br.x_insA, Br.kPopA, Br.kIns1, Br.kIns2, Br.x_ex, Br.x_ret, Br.x_retV, Br.x_retN, Br.x_if, Br.x_whl, Br.x_brk, Br.x_cont, Br.x_pass, Br.x_raise, Br.kOp, Br.kVal, Br.kCons, Br.kAs, Br.kConsE, Br.kEs, Br.kTup, Br.kLst, Br.kCall, Br.kMth2, Br.kMth, Br.kAnd, Br.kOr, Br.kNot, Br.kIte, Br.kCh4, Br.kCh3, Br.kCh2b, Br.kCh2, Br.kCh1, Br.kS3, Br.kS2, Br.kS1, Br.kC6, Br.kC5, Br.kC4, Br.kC3, Br.kC0, Br.kC2, Br.kC1, Br.kTand, Br.kTor, Br.kTnot, Br.kTe, Br.kSeq, Br.kR1, Br.kR3, Br.kR2, Br.kEn, Br.kZ2, Br.kZ1, Br.kRv, Br.kOwn, Br.kFro, Br.kOwnV, Br.kCallL, Br.kSet, Br.kUnp, Br.kPar, Br.kSI2, Br.kSI1, Br.kApp, Br.kExt, Br.kEx, Br.kRet, Br.kIf, Br.kFor, Br.ifE_t, Br.ifE_f, Br.ifS_t, Br.ifS_f, Br.okE_eq, Br.cF, Br.x_for, ne_eq, reduceCtorEq, not_false_eq_true, implies_true, ER.bind_ok, ER.bind_ex, ER.bind_st, ER.so_ok, ER.so_ex, ER.so_st, ER.of_some, ER.of_none, SO.of_some, SO.of_none, Br.bindS_k, Br.bindK_some, Br.bindK_none, Tg.bind, Tg.binds, at', setIxP, AV.pvs, AV.pv, AV.lvs, AV.lv, AV.refs, AV.back, maskL, LV.isFro, LV.pv, Br.callE_k, Br.callK0_some, Br.callK_ok, Br.callK_ex, froE, Br.opX_add, Br.opX_sub, Br.opX_mul, Br.opX_fdiv, Br.opX_mod, Br.opX_pow, Br.opX_neg, Br.opX_eq, Br.opX_ne, Br.opX_lt, Br.opX_le, Br.opX_gt, Br.opX_ge, Br.opX_isN, Br.opX_isNN, Br.opX_inn, Br.opX_nin, Br.opX_len, Br.opX_sum, Br.opX_abs, Br.opX_int1, Br.opX_str1, Br.opX_tuple1, Br.opX_list1, Br.opX_sorted, Br.opX_allL, Br.opX_anyL, Br.opX_min2, Br.opX_max2, Br.opX_minL, Br.opX_maxL, Br.opX_idx, Br.opX_rev, Br.opX_dget, Br.opX_values, Br.opX_dmod, Br.opX_lcnt, Br.opX_tcnt, Br.opX_lidx, Br.opX_bits, Br.opX_sortedD, Br.opX_minD, Br.opX_maxD, Br.opX_isB, Br.opX_isNB, Br.opX_isTy, Br.opX_slc, Br.opX_isEx, Br.opX_dict1, Br.opX_tupleX, Br.dn_non, Br.dn_bl, Br.dn_int, Br.dn_str, Br.dn_ty, Br.dn_exc, Br.dn_tup, Br.dn_xt, Br.dn_lst, Br.dn_dK, Br.dn_dT, Br.dn_dn, Br.isD_dn, Br.eqP_dnl, Br.eqP_dnr, tupleXP, opSem, addP, subP, mulP, fdivP, modP, powP, negP, eqOP, neOP, ltOP, leOP, gtOP, geOP, isNP, isNNP, isBP, isNBP, PV.isNon, lenP, sumP, absP, int1P, str1P, tuple1P, list1P, min2P, max2P, idxP, slcP, slcPart, dmodP, isTyOP, isTys, isTyP, tyName, ownV, Op.new, wipeE, Br.backE_nil, Br.backE_cons, Br.froO_f, Br.froO_n, Br.froO_0, Br.froO_o, seqOf, parE, ownL, keyP, recvOk, PV.isD, PV.isT, Br.eqP_ii, Br.eqP_ss, Br.eqP_bb, Br.eqP_nn, Br.eqP_tt, Br.eqP_ll, Br.eqPs_00, Br.eqPs_0c, Br.eqPs_c0, Br.eqPs_cc, Br.eqPs_ints, Br.eqP_xl, Br.eqP_xr, Br.eqP_ni, Br.eqP_ns, Br.eqP_nt, Br.eqP_nl, Br.eqP_nb, Br.eqP_in, Br.eqP_is, Br.eqP_it, Br.eqP_il, Br.eqP_sn, Br.eqP_si, Br.eqP_st, Br.eqP_sl, Br.eqP_sb, Br.eqP_tn, Br.eqP_ti, Br.eqP_ts, Br.eqP_tl, Br.eqP_tb, Br.eqP_ln, Br.eqP_li, Br.eqP_ls, Br.eqP_lt, Br.eqP_lb, Br.eqP_bn, Br.eqP_bs, Br.eqP_bt, Br.eqP_bl, intsOf, List.getElem?_cons_zero, List.getElem?_cons_succ, List.getElem?_nil, List.set_cons_zero, List.set_cons_succ, List.map_cons, List.map_nil, List.cons_append, List.nil_append, List.length_cons, List.length_nil, List.replicate_succ, List.replicate_zero, List.append_nil, Option.bind_some, Option.bind_none, Option.map_some, Option.map_none, if_true, if_false, ite_true, ite_false, decide_true, decide_false, Bool.and_true, Bool.true_and, Bool.not_true, Bool.not_false, reduceIte, Option.isSome_some, Br.kit_NoneType_int, Br.kit_NoneType_bool, Br.kit_NoneType_str, Br.kit_NoneType_tuple, Br.kit_NoneType_list, Br.kit_NoneType_dict, Br.kit_bool_int, Br.kit_bool_bool, Br.kit_bool_str, Br.kit_bool_tuple, Br.kit_bool_list, Br.kit_bool_dict, Br.kit_int_int, Br.kit_int_bool, Br.kit_int_str, Br.kit_int_tuple, Br.kit_int_list, Br.kit_int_dict, Br.kit_str_int, Br.kit_str_bool, Br.kit_str_str, Br.kit_str_tuple, Br.kit_str_list, Br.kit_str_dict, Br.kit_tuple_int, Br.kit_tuple_bool, Br.kit_tuple_str, Br.kit_tuple_tuple, Br.kit_tuple_list, Br.kit_tuple_dict, Br.kit_list_int, Br.kit_list_bool, Br.kit_list_str, Br.kit_list_tuple, Br.kit_list_list, Br.kit_list_dict, Br.kit_dict_int, Br.kit_dict_bool, Br.kit_dict_str, Br.kit_dict_tuple, Br.kit_dict_list, Br.kit_dict_dict, L2.ixN, Br.rng_ok, Br.mul_ok_r, Br.mul_ok_l, LIM, Br.PV.i_int, Br.log2_lt_9000, Br.atI_0, Br.atI_1, Br.atI_2, lcntP, lidxP, bitsP, revP, cntP, sortedDP, minDP, maxDP, sortX, Br.x_try, Br.tryK_nx, Br.tryK_rt, Br.tryK_bk, Br.tryK_ct, Br.suiteX_nx, Br.suiteX_bk, Br.suiteX_ct, Br.suiteX_rt, Br.setX_some, Br.setX_none, Br.goneX_some, Br.goneX_none, Br.x_lock, Br.kLock_d, Br.lockR_nx, Br.lockR_rt, Br.l_callT', Br.v_callT, Br.kT1, Br.kT2, Br.kT3, Br.kT4_eq, Br.dropT_ok, Br.dropT_ex, Br.dropT_st, Br.sh_val, Br.sh_ref, Br.kXt, Br.v_xtup, Br.l_xtup, Br.lockV_s, Br.thin_0, Br.thin_c, Br.thinO_n, Br.thinO_s, Br.thinL_f, Br.thinL_l, Br.thinL_d, Br.thinL_t, Br.noD_n, Br.noD_b, Br.noD_i, Br.noD_s, Br.noD_e, Br.noD_t, Br.noD_x, Br.noD_l, Br.noD_d, Br.noDs_0, Br.noDs_c, Br.noDs_i, ph_law_changed_right_6199, l9, hr11, hl11, -List.map_map]
    rw [compL_map (h := fun _ => .bl false) (any1 a3)]
    simp -implicitDefEqProofs [ioOk, Br.frameOf, lvsOf, Br.exSs_nil, Br.exSs_cons, SO.seq_nx, SO.seq_rt, SO.seq_ex, SO.seq_bk, SO.seq_ct, SO.seq_st, SO.fin_nx, SO.fin_rt, SO.fin_ex, Br.v_app, Br.v_mth, Br.v_tup, Br.v_lst, Br.v_cst, Br.v_dnew, Br.v_var, Br.v_call, Br.v_and, Br.v_or, Br.v_not, Br.v_ite, Br.v_chain, Br.v_sl2, Br.v_comp, Br.v_aref, Br.v_aval, Br.v_as0, Br.v_as, Br.v_es0, Br.v_es, Br.v_tand, Br.v_tor, Br.v_tnot, Br.v_te, Br.v_ts0, Br.v_ts1, Br.v_seq, Br.v_rng1, Br.v_rng2, Br.v_enum, Br.v_zip, Br.v_popE, Br.v_dispV, Br.l_dispV', Br.v_popL, Br.l_popE, Br.l_popL, Br.kPopE_eq, Br.putE_some, Br.putE_none, Br.v_rev, Br.l_app, Br.l_mth', Br.l_lst', Br.l_dnew', Br.l_call', Br.l_comp', Br.l_var, Br.l_cst, Br.l_tup, Br.l_and, Br.l_or, Br.l_not, Br.l_ite, Br.l_chain, Br.l_sl2, Br.x_set, Br.x_unp, Br.x_par, Br.x_setIx, Br.x_app, Br.x_ext, Br.x_popA, Br.x_insA, Br.kPopA, Br.kIns1, Br.kIns2, Br.x_ex, Br.x_ret, Br.x_retV, Br.x_retN, Br.x_if, Br.x_whl, Br.x_brk, Br.x_cont, Br.x_pass, Br.x_raise, Br.kOp, Br.kVal, Br.kCons, Br.kAs, Br.kConsE, Br.kEs, Br.kTup, Br.kLst, Br.kCall, Br.kMth2, Br.kMth, Br.kAnd, Br.kOr, Br.kNot, Br.kIte, Br.kCh4, Br.kCh3, Br.kCh2b, Br.kCh2, Br.kCh1, Br.kS3, Br.kS2, Br.kS1, Br.kC6, Br.kC5, Br.kC4, Br.kC3, Br.kC0, Br.kC2, Br.kC1, Br.kTand, Br.kTor, Br.kTnot, Br.kTe, Br.kSeq, Br.kR1, Br.kR3, Br.kR2, Br.kEn, Br.kZ2, Br.kZ1, Br.kRv, Br.kOwn, Br.kFro, Br.kOwnV, Br.kCallL, Br.kSet, Br.kUnp, Br.kPar, Br.kSI2, Br.kSI1, Br.kApp, Br.kExt, Br.kEx, Br.kRet, Br.kIf, Br.kFor, Br.ifE_t, Br.ifE_f, Br.ifS_t, Br.ifS_f, Br.okE_eq, Br.cF, Br.x_for, ne_eq, reduceCtorEq, not_false_eq_true, implies_true, ER.bind_ok, ER.bind_ex, ER.bind_st, ER.so_ok, ER.so_ex, ER.so_st, ER.of_some, ER.of_none, SO.of_some, SO.of_none, Br.bindS_k, Br.bindK_some, Br.bindK_none, Tg.bind, Tg.binds, at', setIxP, AV.pvs, AV.pv, AV.lvs, AV.lv, AV.refs, AV.back, maskL, LV.isFro, LV.pv, Br.callE_k, Br.callK0_some, Br.callK_ok, Br.callK_ex, froE, Br.opX_add, Br.opX_sub, Br.opX_mul, Br.opX_fdiv, Br.opX_mod, Br.opX_pow, Br.opX_neg, Br.opX_eq, Br.opX_ne, Br.opX_lt, Br.opX_le, Br.opX_gt, Br.opX_ge, Br.opX_isN, Br.opX_isNN, Br.opX_inn, Br.opX_nin, Br.opX_len, Br.opX_sum, Br.opX_abs, Br.opX_int1, Br.opX_str1, Br.opX_tuple1, Br.opX_list1, Br.opX_sorted, Br.opX_allL, Br.opX_anyL, Br.opX_min2, Br.opX_max2, Br.opX_minL, Br.opX_maxL, Br.opX_idx, Br.opX_rev, Br.opX_dget, Br.opX_values, Br.opX_dmod, Br.opX_lcnt, Br.opX_tcnt, Br.opX_lidx, Br.opX_bits, Br.opX_sortedD, Br.opX_minD, Br.opX_maxD, Br.opX_isB, Br.opX_isNB, Br.opX_isTy, Br.opX_slc, Br.opX_isEx, Br.opX_dict1, Br.opX_tupleX, Br.dn_non, Br.dn_bl, Br.dn_int, Br.dn_str, Br.dn_ty, Br.dn_exc, Br.dn_tup, Br.dn_xt, Br.dn_lst, Br.dn_dK, Br.dn_dT, Br.dn_dn, Br.isD_dn, Br.eqP_dnl, Br.eqP_dnr, tupleXP, opSem, addP, subP, mulP, fdivP, modP, powP, negP, eqOP, neOP, ltOP, leOP, gtOP, geOP, isNP, isNNP, isBP, isNBP, PV.isNon, lenP, sumP, absP, int1P, str1P, tuple1P, list1P, min2P, max2P, idxP, slcP, slcPart, dmodP, isTyOP, isTys, isTyP, tyName, ownV, Op.new, wipeE, Br.backE_nil, Br.backE_cons, Br.froO_f, Br.froO_n, Br.froO_0, Br.froO_o, seqOf, parE, ownL, keyP, recvOk, PV.isD, PV.isT, Br.eqP_ii, Br.eqP_ss, Br.eqP_bb, Br.eqP_nn, Br.eqP_tt, Br.eqP_ll, Br.eqPs_00, Br.eqPs_0c, Br.eqPs_c0, Br.eqPs_cc, Br.eqPs_ints, Br.eqP_xl, Br.eqP_xr, Br.eqP_ni, Br.eqP_ns, Br.eqP_nt, Br.eqP_nl, Br.eqP_nb, Br.eqP_in, Br.eqP_is, Br.eqP_it, Br.eqP_il, Br.eqP_sn, Br.eqP_si, Br.eqP_st, Br.eqP_sl, Br.eqP_sb, Br.eqP_tn, Br.eqP_ti, Br.eqP_ts, Br.eqP_tl, Br.eqP_tb, Br.eqP_ln, Br.eqP_li, Br.eqP_ls, Br.eqP_lt, Br.eqP_lb, Br.eqP_bn, Br.eqP_bs, Br.eqP_bt, Br.eqP_bl, intsOf, List.getElem?_cons_zero, List.getElem?_cons_succ, List.getElem?_nil, List.set_cons_zero, List.set_cons_succ, List.map_cons, List.map_nil, List.cons_append, List.nil_append, List.length_cons, List.length_nil, List.replicate_succ, List.replicate_zero, List.append_nil, Option.bind_some, Option.bind_none, Option.map_some, Option.map_none, if_true, if_false, ite_true, ite_false, decide_true, decide_false, Bool.and_true, Bool.true_and, Bool.not_true, Bool.not_false, reduceIte, Option.isSome_some, Br.kit_NoneType_int, Br.kit_NoneType_bool, Br.kit_NoneType_str, Br.kit_NoneType_tuple, Br.kit_NoneType_list, Br.kit_NoneType_dict, Br.kit_bool_int, Br.kit_bool_bool, Br.kit_bool_str, Br.kit_bool_tuple, Br.kit_bool_list, Br.kit_bool_dict, Br.kit_int_int, Br.kit_int_bool, Br.kit_int_str, Br.kit_int_tuple, Br.kit_int_list, Br.kit_int_dict, Br.kit_str_int, Br.kit_str_bool, Br.kit_str_str, Br.kit_str_tuple, Br.kit_str_list, Br.kit_str_dict, Br.kit_tuple_int, Br.kit_tuple_bool, Br.kit_tuple_str, Br.kit_tuple_tuple, Br.kit_tuple_list, Br.kit_tuple_dict, Br.kit_list_int, Br.kit_list_bool, Br.kit_list_str, Br.kit_list_tuple, Br.kit_list_list, Br.kit_list_dict, Br.kit_dict_int, Br.kit_dict_bool, Br.kit_dict_str, Br.kit_dict_tuple, Br.kit_dict_list, Br.kit_dict_dict, L2.ixN, Br.rng_ok, Br.mul_ok_r, Br.mul_ok_l, LIM, Br.PV.i_int, Br.log2_lt_9000, Br.atI_0, Br.atI_1, Br.atI_2, lcntP, lidxP, bitsP, revP, cntP, sortedDP, minDP, maxDP, sortX, Br.x_try, Br.tryK_nx, Br.tryK_rt, Br.tryK_bk, Br.tryK_ct, Br.suiteX_nx, Br.suiteX_bk, Br.suiteX_ct, Br.suiteX_rt, Br.setX_some, Br.setX_none, Br.goneX_some, Br.goneX_none, Br.x_lock, Br.kLock_d, Br.lockR_nx, Br.lockR_rt, Br.l_callT', Br.v_callT, Br.kT1, Br.kT2, Br.kT3, Br.kT4_eq, Br.dropT_ok, Br.dropT_ex, Br.dropT_st, Br.sh_val, Br.sh_ref, Br.kXt, Br.v_xtup, Br.l_xtup, Br.lockV_s, Br.thin_0, Br.thin_c, Br.thinO_n, Br.thinO_s, Br.thinL_f, Br.thinL_l, Br.thinL_d, Br.thinL_t, Br.noD_n, Br.noD_b, Br.noD_i, Br.noD_s, Br.noD_e, Br.noD_t, Br.noD_x, Br.noD_l, Br.noD_d, Br.noDs_0, Br.noDs_c, Br.noDs_i, ph_law_changed_right_6199, anyL_false, hl11, hcut, hcl, -List.map_map]
    rw [compL_map (h := fun _ => .bl false) (any2 a3)]
    simp -implicitDefEqProofs [ioOk, Br.frameOf, lvsOf, Br.exSs_nil, Br.exSs_cons, SO.seq_nx, SO.seq_rt, SO.seq_ex, SO.seq_bk, SO.seq_ct, SO.seq_st, SO.fin_nx, SO.fin_rt, SO.fin_ex, Br.v_app, Br.v_mth, Br.v_tup, Br.v_lst, Br.v_cst, Br.v_dnew, Br.v_var, Br.v_call, Br.v_and, Br.v_or, Br.v_not, Br.v_ite, Br.v_chain, Br.v_sl2, Br.v_comp, Br.v_aref, Br.v_aval, Br.v_as0, Br.v_as, Br.v_es0, Br.v_es, Br.v_tand, Br.v_tor, Br.v_tnot, Br.v_te, Br.v_ts0, Br.v_ts1, Br.v_seq, Br.v_rng1, Br.v_rng2, Br.v_enum, Br.v_zip, Br.v_popE, Br.v_dispV, Br.l_dispV', Br.v_popL, Br.l_popE, Br.l_popL, Br.kPopE_eq, Br.putE_some, Br.putE_none, Br.v_rev, Br.l_app, Br.l_mth', Br.l_lst', Br.l_dnew', Br.l_call', Br.l_comp', Br.l_var, Br.l_cst, Br.l_tup, Br.l_and, Br.l_or, Br.l_not, Br.l_ite, Br.l_chain, Br.l_sl2, Br.x_set, Br.x_unp, Br.x_par, Br.x_setIx, Br.x_app, Br.x_ext, Br.x_popA, Br.x_insA, Br.kPopA, Br.kIns1, Br.kIns2, Br.x_ex, Br.x_ret, Br.x_retV, Br.x_retN, Br.x_if, Br.x_whl, Br.x_brk, Br.x_cont, Br.x_pass, Br.x_raise, Br.kOp, Br.kVal, Br.kCons, Br.kAs, Br.kConsE, Br.kEs, Br.kTup, Br.kLst, Br.kCall, Br.kMth2, Br.kMth, Br.kAnd, Br.kOr, Br.kNot, Br.kIte, Br.kCh4, Br.kCh3, Br.kCh2b, Br.kCh2, Br.kCh1, Br.kS3, Br.kS2, Br.kS1, Br.kC6, Br.kC5, Br.kC4, Br.kC3, Br.kC0, Br.kC2, Br.kC1, Br.kTand, Br.kTor, Br.kTnot, Br.kTe, Br.kSeq, Br.kR1, Br.kR3, Br.kR2, Br.kEn, Br.kZ2, Br.kZ1, Br.kRv, Br.kOwn, Br.kFro, Br.kOwnV, Br.kCallL, Br.kSet, Br.kUnp, Br.kPar, Br.kSI2, Br.kSI1, Br.kApp, Br.kExt, Br.kEx, Br.kRet, Br.kIf, Br.kFor, Br.ifE_t, Br.ifE_f, Br.ifS_t, Br.ifS_f, Br.okE_eq, Br.cF, Br.x_for, ne_eq, reduceCtorEq, not_false_eq_true, implies_true, ER.bind_ok, ER.bind_ex, ER.bind_st, ER.so_ok, ER.so_ex, ER.so_st, ER.of_some, ER.of_none, SO.of_some, SO.of_none, Br.bindS_k, Br.bindK_some, Br.bindK_none, Tg.bind, Tg.binds, at', setIxP, AV.pvs, AV.pv, AV.lvs, AV.lv, AV.refs, AV.back, maskL, LV.isFro, LV.pv, Br.callE_k, Br.callK0_some, Br.callK_ok, Br.callK_ex, froE, Br.opX_add, Br.opX_sub, Br.opX_mul, Br.opX_fdiv, Br.opX_mod, Br.opX_pow, Br.opX_neg, Br.opX_eq, Br.opX_ne, Br.opX_lt, Br.opX_le, Br.opX_gt, Br.opX_ge, Br.opX_isN, Br.opX_isNN, Br.opX_inn, Br.opX_nin, Br.opX_len, Br.opX_sum, Br.opX_abs, Br.opX_int1, Br.opX_str1, Br.opX_tuple1, Br.opX_list1, Br.opX_sorted, Br.opX_allL, Br.opX_anyL, Br.opX_min2, Br.opX_max2, Br.opX_minL, Br.opX_maxL, Br.opX_idx, Br.opX_rev, Br.opX_dget, Br.opX_values, Br.opX_dmod, Br.opX_lcnt, Br.opX_tcnt, Br.opX_lidx, Br.opX_bits, Br.opX_sortedD, Br.opX_minD, Br.opX_maxD, Br.opX_isB, Br.opX_isNB, Br.opX_isTy, Br.opX_slc, Br.opX_isEx, Br.opX_dict1, Br.opX_tupleX, Br.dn_non, Br.dn_bl, Br.dn_int, Br.dn_str, Br.dn_ty, Br.dn_exc, Br.dn_tup, Br.dn_xt, Br.dn_lst, Br.dn_dK, Br.dn_dT, Br.dn_dn, Br.isD_dn, Br.eqP_dnl, Br.eqP_dnr, tupleXP, opSem, addP, subP, mulP, fdivP, modP, powP, negP, eqOP, neOP, ltOP, leOP, gtOP, geOP, isNP, isNNP, isBP, isNBP, PV.isNon, lenP, sumP, absP, int1P, str1P, tuple1P, list1P, min2P, max2P, idxP, slcP, slcPart, dmodP, isTyOP, isTys, isTyP, tyName, ownV, Op.new, wipeE, Br.backE_nil, Br.backE_cons, Br.froO_f, Br.froO_n, Br.froO_0, Br.froO_o, seqOf, parE, ownL, keyP, recvOk, PV.isD, PV.isT, Br.eqP_ii, Br.eqP_ss, Br.eqP_bb, Br.eqP_nn, Br.eqP_tt, Br.eqP_ll, Br.eqPs_00, Br.eqPs_0c, Br.eqPs_c0, Br.eqPs_cc, Br.eqPs_ints, Br.eqP_xl, Br.eqP_xr, Br.eqP_ni, Br.eqP_ns, Br.eqP_nt, Br.eqP_nl, Br.eqP_nb, Br.eqP_in, Br.eqP_is, Br.eqP_it, Br.eqP_il, Br.eqP_sn, Br.eqP_si, Br.eqP_st, Br.eqP_sl, Br.eqP_sb, Br.eqP_tn, Br.eqP_ti, Br.eqP_ts, Br.eqP_tl, Br.eqP_tb, Br.eqP_ln, Br.eqP_li, Br.eqP_ls, Br.eqP_lt, Br.eqP_lb, Br.eqP_bn, Br.eqP_bs, Br.eqP_bt, Br.eqP_bl, intsOf, List.getElem?_cons_zero, List.getElem?_cons_succ, List.getElem?_nil, List.set_cons_zero, List.set_cons_succ, List.map_cons, List.map_nil, List.cons_append, List.nil_append, List.length_cons, List.length_nil, List.replicate_succ, List.replicate_zero, List.append_nil, Option.bind_some, Option.bind_none, Option.map_some, Option.map_none, if_true, if_false, ite_true, ite_false, decide_true, decide_false, Bool.and_true, Bool.true_and, Bool.not_true, Bool.not_false, reduceIte, Option.isSome_some, Br.kit_NoneType_int, Br.kit_NoneType_bool, Br.kit_NoneType_str, Br.kit_NoneType_tuple, Br.kit_NoneType_list, Br.kit_NoneType_dict, Br.kit_bool_int, Br.kit_bool_bool, Br.kit_bool_str, Br.kit_bool_tuple, Br.kit_bool_list, Br.kit_bool_dict, Br.kit_int_int, Br.kit_int_bool, Br.kit_int_str, Br.kit_int_tuple, Br.kit_int_list, Br.kit_int_dict, Br.kit_str_int, Br.kit_str_bool, Br.kit_str_str, Br.kit_str_tuple, Br.kit_str_list, Br.kit_str_dict, Br.kit_tuple_int, Br.kit_tuple_bool, Br.kit_tuple_str, Br.kit_tuple_tuple, Br.kit_tuple_list, Br.kit_tuple_dict, Br.kit_list_int, Br.kit_list_bool, Br.kit_list_str, Br.kit_list_tuple, Br.kit_list_list, Br.kit_list_dict, Br.kit_dict_int, Br.kit_dict_bool, Br.kit_dict_str, Br.kit_dict_tuple, Br.kit_dict_list, Br.kit_dict_dict, L2.ixN, Br.rng_ok, Br.mul_ok_r, Br.mul_ok_l, LIM, Br.PV.i_int, Br.log2_lt_9000, Br.atI_0, Br.atI_1, Br.atI_2, lcntP, lidxP, bitsP, revP, cntP, sortedDP, minDP, maxDP, sortX, Br.x_try, Br.tryK_nx, Br.tryK_rt, Br.tryK_bk, Br.tryK_ct, Br.suiteX_nx, Br.suiteX_bk, Br.suiteX_ct, Br.suiteX_rt, Br.setX_some, Br.setX_none, Br.goneX_some, Br.goneX_none, Br.x_lock, Br.kLock_d, Br.lockR_nx, Br.lockR_rt, Br.l_callT', Br.v_callT, Br.kT1, Br.kT2, Br.kT3, Br.kT4_eq, Br.dropT_ok, Br.dropT_ex, Br.dropT_st, Br.sh_val, Br.sh_ref, Br.kXt, Br.v_xtup, Br.l_xtup, Br.lockV_s, Br.thin_0, Br.thin_c, Br.thinO_n, Br.thinO_s, Br.thinL_f, Br.thinL_l, Br.thinL_d, Br.thinL_t, Br.noD_n, Br.noD_b, Br.noD_i, Br.noD_s, Br.noD_e, Br.noD_t, Br.noD_x, Br.noD_l, Br.noD_d, Br.noDs_0, Br.noDs_c, Br.noDs_i, -maxDP, ph_law_changed_right_6199, anyL_false, hcut, hmx, at90, at91, f0, f1, hcl, ha3, -List.map_map]
end Cm
set_option maxHeartbeats 0
namespace Cm
open PySem Br
theorem atI_int {l : List Int} {x : Int} (h0 : 0 ≤ x) (h1 : x < l.length) : ∃ z ∈ l, L2.atI (l.map PV.int) x = some (.int z) := by
  obtain ⟨v, hv, e⟩ := atI_in (l := l.map PV.int) h0 (by simpa using h1)
  obtain ⟨z, hz, rfl⟩ := List.mem_map.mp hv
  exact ⟨z, hz, e⟩
theorem atI_6 {P : Int → Prop} {a b c d e f x : Int} (h0 : 0 ≤ x) (h1 : x < 6) (ha : P a) (hb : P b) (hc : P c) (hd : P d) (he : P e) (hf : P f) : ∃ z, P z ∧ L2.atI [PV.int a, PV.int b, PV.int c, PV.int d, PV.int e, PV.int f] x = some (.int z) := by
  obtain ⟨z, hz, e⟩ := atI_int (l := [a, b, c, d, e, f]) h0 (by simpa using h1)
  refine ⟨z, ?_, e⟩
  simp only [List.mem_cons, List.not_mem_nil, or_false] at hz
  rcases hz with rfl | rfl | rfl | rfl | rfl | rfl <;> assumption
theorem atI_5 {P : Int → Prop} {a b c d e x : Int} (h0 : 0 ≤ x) (h1 : x < 5) (ha : P a) (hb : P b) (hc : P c) (hd : P d) (he : P e) : ∃ z, P z ∧ L2.atI [PV.int a, PV.int b, PV.int c, PV.int d, PV.int e] x = some (.int z) := by
  obtain ⟨z, hz, e⟩ := atI_int (l := [a, b, c, d, e]) h0 (by simpa using h1)
  refine ⟨z, ?_, e⟩
  simp only [List.mem_cons, List.not_mem_nil, or_false] at hz
  rcases hz with rfl | rfl | rfl | rfl | rfl <;> assumption
theorem atI_4 {P : Int → Prop} {a b c d x : Int} (h0 : 0 ≤ x) (h1 : x < 4) (ha : P a) (hb : P b) (hc : P c) (hd : P d) : ∃ z, P z ∧ L2.atI [PV.int a, PV.int b, PV.int c, PV.int d] x = some (.int z) := by
  obtain ⟨z, hz, e⟩ := atI_int (l := [a, b, c, d]) h0 (by simpa using h1)
  refine ⟨z, ?_, e⟩
  simp only [List.mem_cons, List.not_mem_nil, or_false] at hz
  rcases hz with rfl | rfl | rfl | rfl <;> assumption
theorem atI_3 {P : Int → Prop} {a b c x : Int} (h0 : 0 ≤ x) (h1 : x < 3) (ha : P a) (hb : P b) (hc : P c) : ∃ z, P z ∧ L2.atI [PV.int a, PV.int b, PV.int c] x = some (.int z) := by
  obtain ⟨z, hz, e⟩ := atI_int (l := [a, b, c]) h0 (by simpa using h1)
  refine ⟨z, ?_, e⟩
  simp only [List.mem_cons, List.not_mem_nil, or_false] at hz
  rcases hz with rfl | rfl | rfl <;> assumption
/-- cut to 1 .. 10 ** 12 -/
def clip (z : Int) : Int := if (if 1 < z then z else 1) < 1000000000000 then (if 1 < z then z else 1) else 1000000000000
theorem clip_eq (z : Int) : (if (if 1 < z then z else 1) < 1000000000000 then (if 1 < z then z else 1) else 1000000000000) = clip z := rfl
theorem clip_1 (z : Int) : 1 ≤ clip z := by unfold clip; split <;> (try split) <;> omega
theorem clip_2 (z : Int) : clip z ≤ 1000000000000 := by unfold clip; split <;> (try split) <;> omega
theorem log2_small {n : Nat} (h : n < 18446744073709551616) : n.log2 < 9000 := log2_lt_9000 (Nat.lt_of_lt_of_le h (by decide))
theorem cutP_ints (ns : List Int) (a b : Option Int) : ∃ xs : List Int, cutP (ns.map PV.int) a b = xs.map PV.int ∧ xs.length ≤ ns.length := by
  unfold cutP
  rw [← List.map_drop, ← List.map_take]
  refine ⟨_, rfl, ?_⟩
  rw [List.length_take, List.length_drop]
  omega
theorem cons_ints {c0 : Int} {xs : List Int} {i : Nat} {x : PV} (h : (PV.int c0 :: xs.map PV.int)[i]? = some x) : ∃ c : Int, x = .int c := by
  rcases List.mem_cons.mp (List.mem_of_getElem? h) with rfl | h
  · exact ⟨_, rfl⟩
  · obtain ⟨c, _, rfl⟩ := List.mem_map.mp h
    exact ⟨c, rfl⟩
end Cm
set_option maxHeartbeats 0
namespace Cm
open PySem Br
def el_law_b5ac_1 : Br.Ex := .app .min2 [.ref 7, .val (.app .pow [.val (.cst (.int 10)), .val (.cst (.int 58))])]
def bd_law_b5ac_1 : List Br.St := [.set 2 (.call 67 [.ref 1, .val (.cst (.int 200))]), .set 3 (.app .add [.val (.cst (.int 1)), .val (.call 364 [.ref 2, .val (.cst (.int 12))])]), .set 4 (.app .tuple1 [.val (.comp (.seq (.call 61 [.ref 2])) (.one 7) [7] [] el_law_b5ac_1)]), .ite (.not (.e (.call 53 [.ref 2, .ref 4, .ref 3]))) [.ret (.cst (.bl false))] []]
def bd_law_b5ac_2 : List Br.St := [.set 6 (.app .mod [.val (.app .fdiv [.val (.app .idx [.val (.call 67 [.ref 1, .val (.cst (.int 1))]), .val (.cst (.int 0))]), .val (.cst (.int 5))]), .val (.cst (.int 12))]), .setIx 5 (.var 6) (.app .add [.val (.app .idx [.ref 5, .ref 6]), .val (.cst (.int 1))])]
def ir_law_b5ac : Fn := ⟨8, 1, [0], [.for (.seq (.app .add [.val (.app (.slc false true) [.ref 0, .val (.cst (.int 12))]), .val (.lst [.cst (.int 0)])])) (.one 1) bd_law_b5ac_1, .set 5 (.app .mul [.val (.lst [.cst (.int 0)]), .val (.cst (.int 12))]), .for (.seq (.app (.slc false true) [.ref 0, .val (.cst (.int 63))])) (.one 1) bd_law_b5ac_2, .ret (.callT 53 [] 67 [.val (.app .sum [.ref 0]), .val (.cst (.int 60))] [.val (.app .tuple1 [.ref 5]), .val (.app .add [.val (.cst (.int 1)), .val (.app .mod [.val (.app .len [.ref 0]), .val (.cst (.int 5))])])])]⟩
def ph_law_b5ac : Nat → List LV → CR := fun j => match j with | 53 => g_law_changed_right_6199 | 61 => g_law_counts_30cb | 67 => g_law_deal_b321 | 364 => g_law_take_9d40 | _ => fun _ => .st
def g_law_b5ac : List LV → CR := runFn ph_law_b5ac 1000000 ir_law_b5ac
-- use: U_list U_idx
theorem k77_put {L : List Int} {x : Int} {v : Int} (h0 : 0 ≤ x) (h1 : x < L.length) : setIxP (.own (.lst (L.map .int))) (.int x) (.int v) = some (.own (.lst ((L.set x.toNat v).map .int))) := by
  obtain ⟨j, rfl⟩ := Int.eq_ofNat_of_zero_le h0
  have e : L2.ixN (L.map PV.int).length (j : Int) = some j := by
    rw [List.length_map]
    unfold L2.ixN
    rw [if_pos (by omega), if_pos (by omega)]
    simp
  simp only [setIxP, e, Option.map_some, List.map_set]
  rfl
theorem law_b5ac_pure (ns : List Int) (hn : ns.length ≤ 63) : ∃ ls', g_law_b5ac [.fro (.lst (ns.map .int))] = .ok (.fro (.bl true)) ls' := by
  (unfold g_law_b5ac ir_law_b5ac; rw [runFn_eq _ _ _ _ ⟨rfl, by decide, rfl⟩])
  have hc1 := cutP_len (ns.map .int) none (some 12)
  rw [List.length_map] at hc1
  have hc2 : (cutP (ns.map PV.int) none (some 12)).length + 1 ≤ 1000000 := by omega
  simp -implicitDefEqProofs [ioOk, Br.frameOf, lvsOf, Br.exSs_nil, Br.exSs_cons, SO.seq_nx, SO.seq_rt, SO.seq_ex, SO.seq_bk, SO.seq_ct, SO.seq_st, SO.fin_nx, SO.fin_rt, SO.fin_ex, Br.v_app, Br.v_mth, Br.v_tup, Br.v_lst, Br.v_cst, Br.v_dnew, Br.v_var, Br.v_call, Br.v_and, Br.v_or, Br.v_not, Br.v_ite, Br.v_chain, Br.v_sl2, Br.v_comp, Br.v_aref, Br.v_aval, Br.v_as0, Br.v_as, Br.v_es0, Br.v_es, Br.v_tand, Br.v_tor, Br.v_tnot, Br.v_te, Br.v_ts0, Br.v_ts1, Br.v_seq, Br.v_rng1, Br.v_rng2, Br.v_enum, Br.v_zip, Br.v_popE, Br.v_dispV, Br.l_dispV', Br.v_popL, Br.l_popE, Br.l_popL, Br.kPopE_eq, Br.putE_some, Br.putE_none, Br.v_rev, Br.l_app, Br.l_mth', Br.l_lst', Br.l_dnew', Br.l_call', Br.l_comp', Br.l_var, Br.l_cst, Br.l_tup, Br.l_and, Br.l_or, Br.l_not, Br.l_ite, Br.l_chain, Br.l_sl2, Br.x_set, Br.x_unp, Br.x_par, Br.x_setIx, Br.x_app, Br.x_ext, Br.x_popA, Br.x_insA, Br.kPopA, Br.kIns1, Br.kIns2, Br.x_ex, Br.x_ret, Br.x_retV, Br.x_retN, Br.x_if, Br.x_whl, Br.x_brk, Br.x_cont, Br.x_pass, Br.x_raise, Br.kOp, Br.kVal, Br.kCons, Br.kAs, Br.kConsE, Br.kEs, Br.kTup, Br.kLst, Br.kCall, Br.kMth2, Br.kMth, Br.kAnd, Br.kOr, Br.kNot, Br.kIte, Br.kCh4, Br.kCh3, Br.kCh2b, Br.kCh2, Br.kCh1, Br.kS3, Br.kS2, Br.kS1, Br.kC6, Br.kC5, Br.kC4, Br.kC3, Br.kC0, Br.kC2, Br.kC1, Br.kTand, Br.kTor, Br.kTnot, Br.kTe, Br.kSeq, Br.kR1, Br.kR3, Br.kR2, Br.kEn, Br.kZ2, Br.kZ1, Br.kRv, Br.kOwn, Br.kFro, Br.kOwnV, Br.kCallL, Br.kSet, Br.kUnp, Br.kPar, Br.kSI2, Br.kSI1, Br.kApp, Br.kExt, Br.kEx, Br.kRet, Br.kIf, Br.kFor, Br.ifE_t, Br.ifE_f, Br.ifS_t, Br.ifS_f, Br.okE_eq, Br.cF, Br.x_for, ne_eq, reduceCtorEq, not_false_eq_true, implies_true, ER.bind_ok, ER.bind_ex, ER.bind_st, ER.so_ok, ER.so_ex, ER.so_st, ER.of_some, ER.of_none, SO.of_some, SO.of_none, Br.bindS_k, Br.bindK_some, Br.bindK_none, Tg.bind, Tg.binds, at', setIxP, AV.pvs, AV.pv, AV.lvs, AV.lv, AV.refs, AV.back, maskL, LV.isFro, LV.pv, Br.callE_k, Br.callK0_some, Br.callK_ok, Br.callK_ex, froE, Br.opX_add, Br.opX_sub, Br.opX_mul, Br.opX_fdiv, Br.opX_mod, Br.opX_pow, Br.opX_neg, Br.opX_eq, Br.opX_ne, Br.opX_lt, Br.opX_le, Br.opX_gt, Br.opX_ge, Br.opX_isN, Br.opX_isNN, Br.opX_inn, Br.opX_nin, Br.opX_len, Br.opX_sum, Br.opX_abs, Br.opX_int1, Br.opX_str1, Br.opX_tuple1, Br.opX_list1, Br.opX_sorted, Br.opX_allL, Br.opX_anyL, Br.opX_min2, Br.opX_max2, Br.opX_minL, Br.opX_maxL, Br.opX_idx, Br.opX_rev, Br.opX_dget, Br.opX_values, Br.opX_dmod, Br.opX_lcnt, Br.opX_tcnt, Br.opX_lidx, Br.opX_bits, Br.opX_sortedD, Br.opX_minD, Br.opX_maxD, Br.opX_isB, Br.opX_isNB, Br.opX_isTy, Br.opX_slc, Br.opX_isEx, Br.opX_dict1, Br.opX_tupleX, Br.dn_non, Br.dn_bl, Br.dn_int, Br.dn_str, Br.dn_ty, Br.dn_exc, Br.dn_tup, Br.dn_xt, Br.dn_lst, Br.dn_dK, Br.dn_dT, Br.dn_dn, Br.isD_dn, Br.eqP_dnl, Br.eqP_dnr, tupleXP, opSem, addP, subP, mulP, fdivP, modP, powP, negP, eqOP, neOP, ltOP, leOP, gtOP, geOP, isNP, isNNP, isBP, isNBP, PV.isNon, lenP, sumP, absP, int1P, str1P, tuple1P, list1P, min2P, max2P, idxP, slcP, slcPart, dmodP, isTyOP, isTys, isTyP, tyName, ownV, Op.new, wipeE, Br.backE_nil, Br.backE_cons, Br.froO_f, Br.froO_n, Br.froO_0, Br.froO_o, seqOf, parE, ownL, keyP, recvOk, PV.isD, PV.isT, Br.eqP_ii, Br.eqP_ss, Br.eqP_bb, Br.eqP_nn, Br.eqP_tt, Br.eqP_ll, Br.eqPs_00, Br.eqPs_0c, Br.eqPs_c0, Br.eqPs_cc, Br.eqPs_ints, Br.eqP_xl, Br.eqP_xr, Br.eqP_ni, Br.eqP_ns, Br.eqP_nt, Br.eqP_nl, Br.eqP_nb, Br.eqP_in, Br.eqP_is, Br.eqP_it, Br.eqP_il, Br.eqP_sn, Br.eqP_si, Br.eqP_st, Br.eqP_sl, Br.eqP_sb, Br.eqP_tn, Br.eqP_ti, Br.eqP_ts, Br.eqP_tl, Br.eqP_tb, Br.eqP_ln, Br.eqP_li, Br.eqP_ls, Br.eqP_lt, Br.eqP_lb, Br.eqP_bn, Br.eqP_bs, Br.eqP_bt, Br.eqP_bl, intsOf, List.getElem?_cons_zero, List.getElem?_cons_succ, List.getElem?_nil, List.set_cons_zero, List.set_cons_succ, List.map_cons, List.map_nil, List.cons_append, List.nil_append, List.length_cons, List.length_nil, List.replicate_succ, List.replicate_zero, List.append_nil, Option.bind_some, Option.bind_none, Option.map_some, Option.map_none, if_true, if_false, ite_true, ite_false, decide_true, decide_false, Bool.and_true, Bool.true_and, Bool.not_true, Bool.not_false, reduceIte, Option.isSome_some, Br.kit_NoneType_int, Br.kit_NoneType_bool, Br.kit_NoneType_str, Br.kit_NoneType_tuple, Br.kit_NoneType_list, Br.kit_NoneType_dict, Br.kit_bool_int, Br.kit_bool_bool, Br.kit_bool_str, Br.kit_bool_tuple, Br.kit_bool_list, Br.kit_bool_dict, Br.kit_int_int, Br.kit_int_bool, Br.kit_int_str, Br.kit_int_tuple, Br.kit_int_list, Br.kit_int_dict, Br.kit_str_int, Br.kit_str_bool, Br.kit_str_str, Br.kit_str_tuple, Br.kit_str_list, Br.kit_str_dict, Br.kit_tuple_int, Br.kit_tuple_bool, Br.kit_tuple_str, Br.kit_tuple_tuple, Br.kit_tuple_list, Br.kit_tuple_dict, Br.kit_list_int, Br.kit_list_bool, Br.kit_list_str, Br.kit_list_tuple, Br.kit_list_list, Br.kit_list_dict, Br.kit_dict_int, Br.kit_dict_bool, Br.kit_dict_str, Br.kit_dict_tuple, Br.kit_dict_list, Br.kit_dict_dict, L2.ixN, Br.rng_ok, Br.mul_ok_r, Br.mul_ok_l, LIM, Br.PV.i_int, Br.log2_lt_9000, Br.atI_0, Br.atI_1, Br.atI_2, lcntP, lidxP, bitsP, revP, cntP, sortedDP, minDP, maxDP, sortX, Br.x_try, Br.tryK_nx, Br.tryK_rt, Br.tryK_bk, Br.tryK_ct, Br.suiteX_nx, Br.suiteX_bk, Br.suiteX_ct, Br.suiteX_rt, Br.setX_some, Br.setX_none, Br.goneX_some, Br.goneX_none, Br.x_lock, Br.kLock_d, Br.lockR_nx, Br.lockR_rt, Br.l_callT', Br.v_callT, Br.kT1, Br.kT2, Br.kT3, Br.kT4_eq, Br.dropT_ok, Br.dropT_ex, Br.dropT_st, Br.sh_val, Br.sh_ref, Br.kXt, Br.v_xtup, Br.l_xtup, Br.lockV_s, Br.thin_0, Br.thin_c, Br.thinO_n, Br.thinO_s, Br.thinL_f, Br.thinL_l, Br.thinL_d, Br.thinL_t, Br.noD_n, Br.noD_b, Br.noD_i, Br.noD_s, Br.noD_e, Br.noD_t, Br.noD_x, Br.noD_l, Br.noD_d, Br.noDs_0, Br.noDs_c, Br.noDs_i, hc2]
  obtain ⟨ρ1, h1, l_cell, l_pot, l_d, l_counts, l_came, l_colour, rfl⟩ := forL_inv (f := bindS (exSs ph_law_b5ac 1000000 bd_law_b5ac_1) (.one 1)) (xs := cutP (ns.map PV.int) none (some 12) ++ [.int 0])
    (ρ := [some (.fro (.lst ((ns).map .int))), none, none, none, none, none, none, none])
    (fun i ρ => ∃ l_cell l_pot l_d l_counts l_came l_colour : Option LV, ρ = [some (.fro (.lst ((ns).map .int))), l_cell, l_pot, l_d, l_counts, l_came, l_colour, none])
    ⟨_, _, _, _, _, _, rfl⟩
    (fun i x ρ hx hi => by
      obtain ⟨l_cell, l_pot, l_d, l_counts, l_came, l_colour, rfl⟩ := hi
      obtain ⟨c, rfl⟩ : ∃ c, x = .int c := by
        rcases List.mem_append.mp (List.mem_of_getElem? hx) with h | h
        · exact cutP_int h
        · simp at h; exact ⟨_, h⟩
      obtain ⟨a0, ha0, e0⟩ := deal_b321 c 200 (by omega) (by omega)
      obtain ⟨d, a1, hd0, hd1, ha1, e1⟩ := take_9d40 (m := 12) ha0 (by omega) (by omega)
      obtain ⟨cs, a2, hl0, hl, hx0, ha2, e2⟩ := counts_30cb a1 ha1
      have hcl : cs.length ≤ 1000000 := by omega
      obtain ⟨a3, ha3, e3⟩ := changed_6199 (a := a2) (d := 1 + d) (cs := cs.map fun c => if 10000000000000000000000000000000000000000000000000000000000 < c then 10000000000000000000000000000000000000000000000000000000000 else c) ha2 (fun h => by
        have := congrArg List.length h
        simp at this
        subst this
        simp at hl0) (by simpa using hl) (by omega) (by omega) (fun y hy => by
        obtain ⟨z, hz, rfl⟩ := List.mem_map.mp hy
        have := hx0 z hz
        split <;> omega)
      refine ⟨[some (.fro (.lst ((ns).map .int))), some (.fro (.int (c))), some (.own (.lst [.int a3])), some (.fro (.int (1 + d))), some (.fro (.tup ((cs.map fun c => if 10000000000000000000000000000000000000000000000000000000000 < c then 10000000000000000000000000000000000000000000000000000000000 else c).map .int))), l_came, l_colour, none], .inl ?_, _, _, _, _, _, _, rfl⟩
      simp -implicitDefEqProofs [ioOk, Br.frameOf, lvsOf, Br.exSs_nil, Br.exSs_cons, SO.seq_nx, SO.seq_rt, SO.seq_ex, SO.seq_bk, SO.seq_ct, SO.seq_st, SO.fin_nx, SO.fin_rt, SO.fin_ex, Br.v_app, Br.v_mth, Br.v_tup, Br.v_lst, Br.v_cst, Br.v_dnew, Br.v_var, Br.v_call, Br.v_and, Br.v_or, Br.v_not, Br.v_ite, Br.v_chain, Br.v_sl2, Br.v_comp, Br.v_aref, Br.v_aval, Br.v_as0, Br.v_as, Br.v_es0, Br.v_es, Br.v_tand, Br.v_tor, Br.v_tnot, Br.v_te, Br.v_ts0, Br.v_ts1, Br.v_seq, Br.v_rng1, Br.v_rng2, Br.v_enum, Br.v_zip, Br.v_popE, Br.v_dispV, Br.l_dispV', Br.v_popL, Br.l_popE, Br.l_popL, Br.kPopE_eq, Br.putE_some, Br.putE_none, Br.v_rev, Br.l_app, Br.l_mth', Br.l_lst', Br.l_dnew', Br.l_call', Br.l_comp', Br.l_var, Br.l_cst, Br.l_tup, Br.l_and, Br.l_or, Br.l_not, Br.l_ite, Br.l_chain, Br.l_sl2, Br.x_set, Br.x_unp, Br.x_par, Br.x_setIx, Br.x_app, Br.x_ext, Br.x_popA, Br.x_insA, Br.kPopA, Br.kIns1, Br.kIns2, Br.x_ex, Br.x_ret, Br.x_retV, Br.x_retN, Br.x_if, Br.x_whl, Br.x_brk, Br.x_cont, Br.x_pass, Br.x_raise, Br.kOp, Br.kVal, Br.kCons, Br.kAs, Br.kConsE, Br.kEs, Br.kTup, Br.kLst, Br.kCall, Br.kMth2, Br.kMth, Br.kAnd, Br.kOr, Br.kNot, Br.kIte, Br.kCh4, Br.kCh3, Br.kCh2b, Br.kCh2, Br.kCh1, Br.kS3, Br.kS2, Br.kS1, Br.kC6, Br.kC5, Br.kC4, Br.kC3, Br.kC0, Br.kC2, Br.kC1, Br.kTand, Br.kTor, Br.kTnot, Br.kTe, Br.kSeq, Br.kR1, Br.kR3, Br.kR2, Br.kEn, Br.kZ2, Br.kZ1, Br.kRv, Br.kOwn, Br.kFro, Br.kOwnV, Br.kCallL, Br.kSet, Br.kUnp, Br.kPar, Br.kSI2, Br.kSI1, Br.kApp, Br.kExt, Br.kEx, Br.kRet, Br.kIf, Br.kFor, Br.ifE_t, Br.ifE_f, Br.ifS_t, Br.ifS_f, Br.okE_eq, Br.cF, Br.x_for, ne_eq, reduceCtorEq, not_false_eq_true, implies_true, ER.bind_ok, ER.bind_ex, ER.bind_st, ER.so_ok, ER.so_ex, ER.so_st, ER.of_some, ER.of_none, SO.of_some, SO.of_none, Br.bindS_k, Br.bindK_some, Br.bindK_none, Tg.bind, Tg.binds, at', setIxP, AV.pvs, AV.pv, AV.lvs, AV.lv, AV.refs, AV.back, maskL, LV.isFro, LV.pv, Br.callE_k, Br.callK0_some, Br.callK_ok, Br.callK_ex, froE, Br.opX_add, Br.opX_sub, Br.opX_mul, Br.opX_fdiv, Br.opX_mod, Br.opX_pow, Br.opX_neg, Br.opX_eq, Br.opX_ne, Br.opX_lt, Br.opX_le, Br.opX_gt, Br.opX_ge, Br.opX_isN, Br.opX_isNN, Br.opX_inn, Br.opX_nin, Br.opX_len, Br.opX_sum, Br.opX_abs, Br.opX_int1, Br.opX_str1, Br.opX_tuple1, Br.opX_list1, Br.opX_sorted, Br.opX_allL, Br.opX_anyL, Br.opX_min2, Br.opX_max2, Br.opX_minL, Br.opX_maxL, Br.opX_idx, Br.opX_rev, Br.opX_dget, Br.opX_values, Br.opX_dmod, Br.opX_lcnt, Br.opX_tcnt, Br.opX_lidx, Br.opX_bits, Br.opX_sortedD, Br.opX_minD, Br.opX_maxD, Br.opX_isB, Br.opX_isNB, Br.opX_isTy, Br.opX_slc, Br.opX_isEx, Br.opX_dict1, Br.opX_tupleX, Br.dn_non, Br.dn_bl, Br.dn_int, Br.dn_str, Br.dn_ty, Br.dn_exc, Br.dn_tup, Br.dn_xt, Br.dn_lst, Br.dn_dK, Br.dn_dT, Br.dn_dn, Br.isD_dn, Br.eqP_dnl, Br.eqP_dnr, tupleXP, opSem, addP, subP, mulP, fdivP, modP, powP, negP, eqOP, neOP, ltOP, leOP, gtOP, geOP, isNP, isNNP, isBP, isNBP, PV.isNon, lenP, sumP, absP, int1P, str1P, tuple1P, list1P, min2P, max2P, idxP, slcP, slcPart, dmodP, isTyOP, isTys, isTyP, tyName, ownV, Op.new, wipeE, Br.backE_nil, Br.backE_cons, Br.froO_f, Br.froO_n, Br.froO_0, Br.froO_o, seqOf, parE, ownL, keyP, recvOk, PV.isD, PV.isT, Br.eqP_ii, Br.eqP_ss, Br.eqP_bb, Br.eqP_nn, Br.eqP_tt, Br.eqP_ll, Br.eqPs_00, Br.eqPs_0c, Br.eqPs_c0, Br.eqPs_cc, Br.eqPs_ints, Br.eqP_xl, Br.eqP_xr, Br.eqP_ni, Br.eqP_ns, Br.eqP_nt, Br.eqP_nl, Br.eqP_nb, Br.eqP_in, Br.eqP_is, Br.eqP_it, Br.eqP_il, Br.eqP_sn, Br.eqP_si, Br.eqP_st, Br.eqP_sl, Br.eqP_sb, Br.eqP_tn, Br.eqP_ti, Br.eqP_ts, Br.eqP_tl, Br.eqP_tb, Br.eqP_ln, Br.eqP_li, Br.eqP_ls, Br.eqP_lt, Br.eqP_lb, Br.eqP_bn, Br.eqP_bs, Br.eqP_bt, Br.eqP_bl, intsOf, List.getElem?_cons_zero, List.getElem?_cons_succ, List.getElem?_nil, List.set_cons_zero, List.set_cons_succ, List.map_cons, List.map_nil, List.cons_append, List.nil_append, List.length_cons, List.length_nil, List.replicate_succ, List.replicate_zero, List.append_nil, Option.bind_some, Option.bind_none, Option.map_some, Option.map_none, if_true, if_false, ite_true, ite_false, decide_true, decide_false, Bool.and_true, Bool.true_and, Bool.not_true, Bool.not_false, reduceIte, Option.isSome_some, Br.kit_NoneType_int, Br.kit_NoneType_bool, Br.kit_NoneType_str, Br.kit_NoneType_tuple, Br.kit_NoneType_list, Br.kit_NoneType_dict, Br.kit_bool_int, Br.kit_bool_bool, Br.kit_bool_str, Br.kit_bool_tuple, Br.kit_bool_list, Br.kit_bool_dict, Br.kit_int_int, Br.kit_int_bool, Br.kit_int_str, Br.kit_int_tuple, Br.kit_int_list, Br.kit_int_dict, Br.kit_str_int, Br.kit_str_bool, Br.kit_str_str, Br.kit_str_tuple, Br.kit_str_list, Br.kit_str_dict, Br.kit_tuple_int, Br.kit_tuple_bool, Br.kit_tuple_str, Br.kit_tuple_tuple, Br.kit_tuple_list, Br.kit_tuple_dict, Br.kit_list_int, Br.kit_list_bool, Br.kit_list_str, Br.kit_list_tuple, Br.kit_list_list, Br.kit_list_dict, Br.kit_dict_int, Br.kit_dict_bool, Br.kit_dict_str, Br.kit_dict_tuple, Br.kit_dict_list, Br.kit_dict_dict, L2.ixN, Br.rng_ok, Br.mul_ok_r, Br.mul_ok_l, LIM, Br.PV.i_int, Br.log2_lt_9000, Br.atI_0, Br.atI_1, Br.atI_2, lcntP, lidxP, bitsP, revP, cntP, sortedDP, minDP, maxDP, sortX, Br.x_try, Br.tryK_nx, Br.tryK_rt, Br.tryK_bk, Br.tryK_ct, Br.suiteX_nx, Br.suiteX_bk, Br.suiteX_ct, Br.suiteX_rt, Br.setX_some, Br.setX_none, Br.goneX_some, Br.goneX_none, Br.x_lock, Br.kLock_d, Br.lockR_nx, Br.lockR_rt, Br.l_callT', Br.v_callT, Br.kT1, Br.kT2, Br.kT3, Br.kT4_eq, Br.dropT_ok, Br.dropT_ex, Br.dropT_st, Br.sh_val, Br.sh_ref, Br.kXt, Br.v_xtup, Br.l_xtup, Br.lockV_s, Br.thin_0, Br.thin_c, Br.thinO_n, Br.thinO_s, Br.thinL_f, Br.thinL_l, Br.thinL_d, Br.thinL_t, Br.noD_n, Br.noD_b, Br.noD_i, Br.noD_s, Br.noD_e, Br.noD_t, Br.noD_x, Br.noD_l, Br.noD_d, Br.noDs_0, Br.noDs_c, Br.noDs_i, bd_law_b5ac_1, ph_law_b5ac, e0, e1, e2, hcl, -List.map_map]
      rw [compL_map (h := fun p => .int (if 10000000000000000000000000000000000000000000000000000000000 < p.i then 10000000000000000000000000000000000000000000000000000000000 else p.i))]
      rotate_left
      · intro y hy
        obtain ⟨z, _, rfl⟩ := List.mem_map.mp hy
        simp -implicitDefEqProofs [ioOk, Br.frameOf, lvsOf, Br.exSs_nil, Br.exSs_cons, SO.seq_nx, SO.seq_rt, SO.seq_ex, SO.seq_bk, SO.seq_ct, SO.seq_st, SO.fin_nx, SO.fin_rt, SO.fin_ex, Br.v_app, Br.v_mth, Br.v_tup, Br.v_lst, Br.v_cst, Br.v_dnew, Br.v_var, Br.v_call, Br.v_and, Br.v_or, Br.v_not, Br.v_ite, Br.v_chain, Br.v_sl2, Br.v_comp, Br.v_aref, Br.v_aval, Br.v_as0, Br.v_as, Br.v_es0, Br.v_es, Br.v_tand, Br.v_tor, Br.v_tnot, Br.v_te, Br.v_ts0, Br.v_ts1, Br.v_seq, Br.v_rng1, Br.v_rng2, Br.v_enum, Br.v_zip, Br.v_popE, Br.v_dispV, Br.l_dispV', Br.v_popL, Br.l_popE, Br.l_popL, Br.kPopE_eq, Br.putE_some, Br.putE_none, Br.v_rev, Br.l_app, Br.l_mth', Br.l_lst', Br.l_dnew', Br.l_call', Br.l_comp', Br.l_var, Br.l_cst, Br.l_tup, Br.l_and, Br.l_or, Br.l_not, Br.l_ite, Br.l_chain, Br.l_sl2, Br.x_set, Br.x_unp, Br.x_par, Br.x_setIx, Br.x_app, Br.x_ext, Br.x_popA, Br.x_insA, Br.kPopA, Br.kIns1, Br.kIns2, Br.x_ex, Br.x_ret, Br.x_retV, Br.x_retN, Br.x_if, Br.x_whl, Br.x_brk, Br.x_cont, Br.x_pass, Br.x_raise, Br.kOp, Br.kVal, Br.kCons, Br.kAs, Br.kConsE, Br.kEs, Br.kTup, Br.kLst, Br.kCall, Br.kMth2, Br.kMth, Br.kAnd, Br.kOr, Br.kNot, Br.kIte, Br.kCh4, Br.kCh3, Br.kCh2b, Br.kCh2, Br.kCh1, Br.kS3, Br.kS2, Br.kS1, Br.kC6, Br.kC5, Br.kC4, Br.kC3, Br.kC0, Br.kC2, Br.kC1, Br.kTand, Br.kTor, Br.kTnot, Br.kTe, Br.kSeq, Br.kR1, Br.kR3, Br.kR2, Br.kEn, Br.kZ2, Br.kZ1, Br.kRv, Br.kOwn, Br.kFro, Br.kOwnV, Br.kCallL, Br.kSet, Br.kUnp, Br.kPar, Br.kSI2, Br.kSI1, Br.kApp, Br.kExt, Br.kEx, Br.kRet, Br.kIf, Br.kFor, Br.ifE_t, Br.ifE_f, Br.ifS_t, Br.ifS_f, Br.okE_eq, Br.cF, Br.x_for, ne_eq, reduceCtorEq, not_false_eq_true, implies_true, ER.bind_ok, ER.bind_ex, ER.bind_st, ER.so_ok, ER.so_ex, ER.so_st, ER.of_some, ER.of_none, SO.of_some, SO.of_none, Br.bindS_k, Br.bindK_some, Br.bindK_none, Tg.bind, Tg.binds, at', setIxP, AV.pvs, AV.pv, AV.lvs, AV.lv, AV.refs, AV.back, maskL, LV.isFro, LV.pv, Br.callE_k, Br.callK0_some, Br.callK_ok, Br.callK_ex, froE, Br.opX_add, Br.opX_sub, Br.opX_mul, Br.opX_fdiv, Br.opX_mod, Br.opX_pow, Br.opX_neg, Br.opX_eq, Br.opX_ne, Br.opX_lt, Br.opX_le, Br.opX_gt, Br.opX_ge, Br.opX_isN, Br.opX_isNN, Br.opX_inn, Br.opX_nin, Br.opX_len, Br.opX_sum, Br.opX_abs, Br.opX_int1, Br.opX_str1, Br.opX_tuple1, Br.opX_list1, Br.opX_sorted, Br.opX_allL, Br.opX_anyL, Br.opX_min2, Br.opX_max2, Br.opX_minL, Br.opX_maxL, Br.opX_idx, Br.opX_rev, Br.opX_dget, Br.opX_values, Br.opX_dmod, Br.opX_lcnt, Br.opX_tcnt, Br.opX_lidx, Br.opX_bits, Br.opX_sortedD, Br.opX_minD, Br.opX_maxD, Br.opX_isB, Br.opX_isNB, Br.opX_isTy, Br.opX_slc, Br.opX_isEx, Br.opX_dict1, Br.opX_tupleX, Br.dn_non, Br.dn_bl, Br.dn_int, Br.dn_str, Br.dn_ty, Br.dn_exc, Br.dn_tup, Br.dn_xt, Br.dn_lst, Br.dn_dK, Br.dn_dT, Br.dn_dn, Br.isD_dn, Br.eqP_dnl, Br.eqP_dnr, tupleXP, opSem, addP, subP, mulP, fdivP, modP, powP, negP, eqOP, neOP, ltOP, leOP, gtOP, geOP, isNP, isNNP, isBP, isNBP, PV.isNon, lenP, sumP, absP, int1P, str1P, tuple1P, list1P, min2P, max2P, idxP, slcP, slcPart, dmodP, isTyOP, isTys, isTyP, tyName, ownV, Op.new, wipeE, Br.backE_nil, Br.backE_cons, Br.froO_f, Br.froO_n, Br.froO_0, Br.froO_o, seqOf, parE, ownL, keyP, recvOk, PV.isD, PV.isT, Br.eqP_ii, Br.eqP_ss, Br.eqP_bb, Br.eqP_nn, Br.eqP_tt, Br.eqP_ll, Br.eqPs_00, Br.eqPs_0c, Br.eqPs_c0, Br.eqPs_cc, Br.eqPs_ints, Br.eqP_xl, Br.eqP_xr, Br.eqP_ni, Br.eqP_ns, Br.eqP_nt, Br.eqP_nl, Br.eqP_nb, Br.eqP_in, Br.eqP_is, Br.eqP_it, Br.eqP_il, Br.eqP_sn, Br.eqP_si, Br.eqP_st, Br.eqP_sl, Br.eqP_sb, Br.eqP_tn, Br.eqP_ti, Br.eqP_ts, Br.eqP_tl, Br.eqP_tb, Br.eqP_ln, Br.eqP_li, Br.eqP_ls, Br.eqP_lt, Br.eqP_lb, Br.eqP_bn, Br.eqP_bs, Br.eqP_bt, Br.eqP_bl, intsOf, List.getElem?_cons_zero, List.getElem?_cons_succ, List.getElem?_nil, List.set_cons_zero, List.set_cons_succ, List.map_cons, List.map_nil, List.cons_append, List.nil_append, List.length_cons, List.length_nil, List.replicate_succ, List.replicate_zero, List.append_nil, Option.bind_some, Option.bind_none, Option.map_some, Option.map_none, if_true, if_false, ite_true, ite_false, decide_true, decide_false, Bool.and_true, Bool.true_and, Bool.not_true, Bool.not_false, reduceIte, Option.isSome_some, Br.kit_NoneType_int, Br.kit_NoneType_bool, Br.kit_NoneType_str, Br.kit_NoneType_tuple, Br.kit_NoneType_list, Br.kit_NoneType_dict, Br.kit_bool_int, Br.kit_bool_bool, Br.kit_bool_str, Br.kit_bool_tuple, Br.kit_bool_list, Br.kit_bool_dict, Br.kit_int_int, Br.kit_int_bool, Br.kit_int_str, Br.kit_int_tuple, Br.kit_int_list, Br.kit_int_dict, Br.kit_str_int, Br.kit_str_bool, Br.kit_str_str, Br.kit_str_tuple, Br.kit_str_list, Br.kit_str_dict, Br.kit_tuple_int, Br.kit_tuple_bool, Br.kit_tuple_str, Br.kit_tuple_tuple, Br.kit_tuple_list, Br.kit_tuple_dict, Br.kit_list_int, Br.kit_list_bool, Br.kit_list_str, Br.kit_list_tuple, Br.kit_list_list, Br.kit_list_dict, Br.kit_dict_int, Br.kit_dict_bool, Br.kit_dict_str, Br.kit_dict_tuple, Br.kit_dict_list, Br.kit_dict_dict, L2.ixN, Br.rng_ok, Br.mul_ok_r, Br.mul_ok_l, LIM, Br.PV.i_int, Br.log2_lt_9000, Br.atI_0, Br.atI_1, Br.atI_2, lcntP, lidxP, bitsP, revP, cntP, sortedDP, minDP, maxDP, sortX, Br.x_try, Br.tryK_nx, Br.tryK_rt, Br.tryK_bk, Br.tryK_ct, Br.suiteX_nx, Br.suiteX_bk, Br.suiteX_ct, Br.suiteX_rt, Br.setX_some, Br.setX_none, Br.goneX_some, Br.goneX_none, Br.x_lock, Br.kLock_d, Br.lockR_nx, Br.lockR_rt, Br.l_callT', Br.v_callT, Br.kT1, Br.kT2, Br.kT3, Br.kT4_eq, Br.dropT_ok, Br.dropT_ex, Br.dropT_st, Br.sh_val, Br.sh_ref, Br.kXt, Br.v_xtup, Br.l_xtup, Br.lockV_s, Br.thin_0, Br.thin_c, Br.thinO_n, Br.thinO_s, Br.thinL_f, Br.thinL_l, Br.thinL_d, Br.thinL_t, Br.noD_n, Br.noD_b, Br.noD_i, Br.noD_s, Br.noD_e, Br.noD_t, Br.noD_x, Br.noD_l, Br.noD_d, Br.noDs_0, Br.noDs_c, Br.noDs_i, el_law_b5ac_1]
      rw [show (cs.map PV.int).map (fun p => PV.int (if 10000000000000000000000000000000000000000000000000000000000 < p.i then 10000000000000000000000000000000000000000000000000000000000 else p.i)) = (cs.map fun c => if 10000000000000000000000000000000000000000000000000000000000 < c then 10000000000000000000000000000000000000000000000000000000000 else c).map PV.int by
        rw [List.map_map, List.map_map]; rfl]
      simp -implicitDefEqProofs [ioOk, Br.frameOf, lvsOf, Br.exSs_nil, Br.exSs_cons, SO.seq_nx, SO.seq_rt, SO.seq_ex, SO.seq_bk, SO.seq_ct, SO.seq_st, SO.fin_nx, SO.fin_rt, SO.fin_ex, Br.v_app, Br.v_mth, Br.v_tup, Br.v_lst, Br.v_cst, Br.v_dnew, Br.v_var, Br.v_call, Br.v_and, Br.v_or, Br.v_not, Br.v_ite, Br.v_chain, Br.v_sl2, Br.v_comp, Br.v_aref, Br.v_aval, Br.v_as0, Br.v_as, Br.v_es0, Br.v_es, Br.v_tand, Br.v_tor, Br.v_tnot, Br.v_te, Br.v_ts0, Br.v_ts1, Br.v_seq, Br.v_rng1, Br.v_rng2, Br.v_enum, Br.v_zip, Br.v_popE, Br.v_dispV, Br.l_dispV', Br.v_popL, Br.l_popE, Br.l_popL, Br.kPopE_eq, Br.putE_some, Br.putE_none, Br.v_rev, Br.l_app, Br.l_mth', Br.l_lst', Br.l_dnew', Br.l_call', Br.l_comp', Br.l_var, Br.l_cst, Br.l_tup, Br.l_and, Br.l_or, Br.l_not, Br.l_ite, Br.l_chain, Br.l_sl2, Br.x_set, Br.x_unp, Br.x_par, Br.x_setIx, Br.x_app, Br.x_ext, Br.x_popA, Br.x_insA, Br.kPopA, Br.kIns1, Br.kIns2, Br.x_ex, Br.x_ret, Br.x_retV, Br.x_retN, Br.x_if, Br.x_whl, Br.x_brk, Br.x_cont, Br.x_pass, Br.x_raise, Br.kOp, Br.kVal, Br.kCons, Br.kAs, Br.kConsE, Br.kEs, Br.kTup, Br.kLst, Br.kCall, Br.kMth2, Br.kMth, Br.kAnd, Br.kOr, Br.kNot, Br.kIte, Br.kCh4, Br.kCh3, Br.kCh2b, Br.kCh2, Br.kCh1, Br.kS3, Br.kS2, Br.kS1, Br.kC6, Br.kC5, Br.kC4, Br.kC3, Br.kC0, Br.kC2, Br.kC1, Br.kTand, Br.kTor, Br.kTnot, Br.kTe, Br.kSeq, Br.kR1, Br.kR3, Br.kR2, Br.kEn, Br.kZ2, Br.kZ1, Br.kRv, Br.kOwn, Br.kFro, Br.kOwnV, Br.kCallL, Br.kSet, Br.kUnp, Br.kPar, Br.kSI2, Br.kSI1, Br.kApp, Br.kExt, Br.kEx, Br.kRet, Br.kIf, Br.kFor, Br.ifE_t, Br.ifE_f, Br.ifS_t, Br.ifS_f, Br.okE_eq, Br.cF, Br.x_for, ne_eq, reduceCtorEq, not_false_eq_true, implies_true, ER.bind_ok, ER.bind_ex, ER.bind_st, ER.so_ok, ER.so_ex, ER.so_st, ER.of_some, ER.of_none, SO.of_some, SO.of_none, Br.bindS_k, Br.bindK_some, Br.bindK_none, Tg.bind, Tg.binds, at', setIxP, AV.pvs, AV.pv, AV.lvs, AV.lv, AV.refs, AV.back, maskL, LV.isFro, LV.pv, Br.callE_k, Br.callK0_some, Br.callK_ok, Br.callK_ex, froE, Br.opX_add, Br.opX_sub, Br.opX_mul, Br.opX_fdiv, Br.opX_mod, Br.opX_pow, Br.opX_neg, Br.opX_eq, Br.opX_ne, Br.opX_lt, Br.opX_le, Br.opX_gt, Br.opX_ge, Br.opX_isN, Br.opX_isNN, Br.opX_inn, Br.opX_nin, Br.opX_len, Br.opX_sum, Br.opX_abs, Br.opX_int1, Br.opX_str1, Br.opX_tuple1, Br.opX_list1, Br.opX_sorted, Br.opX_allL, Br.opX_anyL, Br.opX_min2, Br.opX_max2, Br.opX_minL, Br.opX_maxL, Br.opX_idx, Br.opX_rev, Br.opX_dget, Br.opX_values, Br.opX_dmod, Br.opX_lcnt, Br.opX_tcnt, Br.opX_lidx, Br.opX_bits, Br.opX_sortedD, Br.opX_minD, Br.opX_maxD, Br.opX_isB, Br.opX_isNB, Br.opX_isTy, Br.opX_slc, Br.opX_isEx, Br.opX_dict1, Br.opX_tupleX, Br.dn_non, Br.dn_bl, Br.dn_int, Br.dn_str, Br.dn_ty, Br.dn_exc, Br.dn_tup, Br.dn_xt, Br.dn_lst, Br.dn_dK, Br.dn_dT, Br.dn_dn, Br.isD_dn, Br.eqP_dnl, Br.eqP_dnr, tupleXP, opSem, addP, subP, mulP, fdivP, modP, powP, negP, eqOP, neOP, ltOP, leOP, gtOP, geOP, isNP, isNNP, isBP, isNBP, PV.isNon, lenP, sumP, absP, int1P, str1P, tuple1P, list1P, min2P, max2P, idxP, slcP, slcPart, dmodP, isTyOP, isTys, isTyP, tyName, ownV, Op.new, wipeE, Br.backE_nil, Br.backE_cons, Br.froO_f, Br.froO_n, Br.froO_0, Br.froO_o, seqOf, parE, ownL, keyP, recvOk, PV.isD, PV.isT, Br.eqP_ii, Br.eqP_ss, Br.eqP_bb, Br.eqP_nn, Br.eqP_tt, Br.eqP_ll, Br.eqPs_00, Br.eqPs_0c, Br.eqPs_c0, Br.eqPs_cc, Br.eqPs_ints, Br.eqP_xl, Br.eqP_xr, Br.eqP_ni, Br.eqP_ns, Br.eqP_nt, Br.eqP_nl, Br.eqP_nb, Br.eqP_in, Br.eqP_is, Br.eqP_it, Br.eqP_il, Br.eqP_sn, Br.eqP_si, Br.eqP_st, Br.eqP_sl, Br.eqP_sb, Br.eqP_tn, Br.eqP_ti, Br.eqP_ts, Br.eqP_tl, Br.eqP_tb, Br.eqP_ln, Br.eqP_li, Br.eqP_ls, Br.eqP_lt, Br.eqP_lb, Br.eqP_bn, Br.eqP_bs, Br.eqP_bt, Br.eqP_bl, intsOf, List.getElem?_cons_zero, List.getElem?_cons_succ, List.getElem?_nil, List.set_cons_zero, List.set_cons_succ, List.map_cons, List.map_nil, List.cons_append, List.nil_append, List.length_cons, List.length_nil, List.replicate_succ, List.replicate_zero, List.append_nil, Option.bind_some, Option.bind_none, Option.map_some, Option.map_none, if_true, if_false, ite_true, ite_false, decide_true, decide_false, Bool.and_true, Bool.true_and, Bool.not_true, Bool.not_false, reduceIte, Option.isSome_some, Br.kit_NoneType_int, Br.kit_NoneType_bool, Br.kit_NoneType_str, Br.kit_NoneType_tuple, Br.kit_NoneType_list, Br.kit_NoneType_dict, Br.kit_bool_int, Br.kit_bool_bool, Br.kit_bool_str, Br.kit_bool_tuple, Br.kit_bool_list, Br.kit_bool_dict, Br.kit_int_int, Br.kit_int_bool, Br.kit_int_str, Br.kit_int_tuple, Br.kit_int_list, Br.kit_int_dict, Br.kit_str_int, Br.kit_str_bool, Br.kit_str_str, Br.kit_str_tuple, Br.kit_str_list, Br.kit_str_dict, Br.kit_tuple_int, Br.kit_tuple_bool, Br.kit_tuple_str, Br.kit_tuple_tuple, Br.kit_tuple_list, Br.kit_tuple_dict, Br.kit_list_int, Br.kit_list_bool, Br.kit_list_str, Br.kit_list_tuple, Br.kit_list_list, Br.kit_list_dict, Br.kit_dict_int, Br.kit_dict_bool, Br.kit_dict_str, Br.kit_dict_tuple, Br.kit_dict_list, Br.kit_dict_dict, L2.ixN, Br.rng_ok, Br.mul_ok_r, Br.mul_ok_l, LIM, Br.PV.i_int, Br.log2_lt_9000, Br.atI_0, Br.atI_1, Br.atI_2, lcntP, lidxP, bitsP, revP, cntP, sortedDP, minDP, maxDP, sortX, Br.x_try, Br.tryK_nx, Br.tryK_rt, Br.tryK_bk, Br.tryK_ct, Br.suiteX_nx, Br.suiteX_bk, Br.suiteX_ct, Br.suiteX_rt, Br.setX_some, Br.setX_none, Br.goneX_some, Br.goneX_none, Br.x_lock, Br.kLock_d, Br.lockR_nx, Br.lockR_rt, Br.l_callT', Br.v_callT, Br.kT1, Br.kT2, Br.kT3, Br.kT4_eq, Br.dropT_ok, Br.dropT_ex, Br.dropT_st, Br.sh_val, Br.sh_ref, Br.kXt, Br.v_xtup, Br.l_xtup, Br.lockV_s, Br.thin_0, Br.thin_c, Br.thinO_n, Br.thinO_s, Br.thinL_f, Br.thinL_l, Br.thinL_d, Br.thinL_t, Br.noD_n, Br.noD_b, Br.noD_i, Br.noD_s, Br.noD_e, Br.noD_t, Br.noD_x, Br.noD_l, Br.noD_d, Br.noDs_0, Br.noDs_c, Br.noDs_i, bd_law_b5ac_1, ph_law_b5ac, hcl, e3, -List.map_map])
  rw [h1]
  simp -implicitDefEqProofs [ioOk, Br.frameOf, lvsOf, Br.exSs_nil, Br.exSs_cons, SO.seq_nx, SO.seq_rt, SO.seq_ex, SO.seq_bk, SO.seq_ct, SO.seq_st, SO.fin_nx, SO.fin_rt, SO.fin_ex, Br.v_app, Br.v_mth, Br.v_tup, Br.v_lst, Br.v_cst, Br.v_dnew, Br.v_var, Br.v_call, Br.v_and, Br.v_or, Br.v_not, Br.v_ite, Br.v_chain, Br.v_sl2, Br.v_comp, Br.v_aref, Br.v_aval, Br.v_as0, Br.v_as, Br.v_es0, Br.v_es, Br.v_tand, Br.v_tor, Br.v_tnot, Br.v_te, Br.v_ts0, Br.v_ts1, Br.v_seq, Br.v_rng1, Br.v_rng2, Br.v_enum, Br.v_zip, Br.v_popE, Br.v_dispV, Br.l_dispV', Br.v_popL, Br.l_popE, Br.l_popL, Br.kPopE_eq, Br.putE_some, Br.putE_none, Br.v_rev, Br.l_app, Br.l_mth', Br.l_lst', Br.l_dnew', Br.l_call', Br.l_comp', Br.l_var, Br.l_cst, Br.l_tup, Br.l_and, Br.l_or, Br.l_not, Br.l_ite, Br.l_chain, Br.l_sl2, Br.x_set, Br.x_unp, Br.x_par, Br.x_setIx, Br.x_app, Br.x_ext, Br.x_popA, Br.x_insA, Br.kPopA, Br.kIns1, Br.kIns2, Br.x_ex, Br.x_ret, Br.x_retV, Br.x_retN, Br.x_if, Br.x_whl, Br.x_brk, Br.x_cont, Br.x_pass, Br.x_raise, Br.kOp, Br.kVal, Br.kCons, Br.kAs, Br.kConsE, Br.kEs, Br.kTup, Br.kLst, Br.kCall, Br.kMth2, Br.kMth, Br.kAnd, Br.kOr, Br.kNot, Br.kIte, Br.kCh4, Br.kCh3, Br.kCh2b, Br.kCh2, Br.kCh1, Br.kS3, Br.kS2, Br.kS1, Br.kC6, Br.kC5, Br.kC4, Br.kC3, Br.kC0, Br.kC2, Br.kC1, Br.kTand, Br.kTor, Br.kTnot, Br.kTe, Br.kSeq, Br.kR1, Br.kR3, Br.kR2, Br.kEn, Br.kZ2, Br.kZ1, Br.kRv, Br.kOwn, Br.kFro, Br.kOwnV, Br.kCallL, Br.kSet, Br.kUnp, Br.kPar, Br.kSI2, Br.kSI1, Br.kApp, Br.kExt, Br.kEx, Br.kRet, Br.kIf, Br.kFor, Br.ifE_t, Br.ifE_f, Br.ifS_t, Br.ifS_f, Br.okE_eq, Br.cF, Br.x_for, ne_eq, reduceCtorEq, not_false_eq_true, implies_true, ER.bind_ok, ER.bind_ex, ER.bind_st, ER.so_ok, ER.so_ex, ER.so_st, ER.of_some, ER.of_none, SO.of_some, SO.of_none, Br.bindS_k, Br.bindK_some, Br.bindK_none, Tg.bind, Tg.binds, at', setIxP, AV.pvs, AV.pv, AV.lvs, AV.lv, AV.refs, AV.back, maskL, LV.isFro, LV.pv, Br.callE_k, Br.callK0_some, Br.callK_ok, Br.callK_ex, froE, Br.opX_add, Br.opX_sub, Br.opX_mul, Br.opX_fdiv, Br.opX_mod, Br.opX_pow, Br.opX_neg, Br.opX_eq, Br.opX_ne, Br.opX_lt, Br.opX_le, Br.opX_gt, Br.opX_ge, Br.opX_isN, Br.opX_isNN, Br.opX_inn, Br.opX_nin, Br.opX_len, Br.opX_sum, Br.opX_abs, Br.opX_int1, Br.opX_str1, Br.opX_tuple1, Br.opX_list1, Br.opX_sorted, Br.opX_allL, Br.opX_anyL, Br.opX_min2, Br.opX_max2, Br.opX_minL, Br.opX_maxL, Br.opX_idx, Br.opX_rev, Br.opX_dget, Br.opX_values, Br.opX_dmod, Br.opX_lcnt, Br.opX_tcnt, Br.opX_lidx, Br.opX_bits, Br.opX_sortedD, Br.opX_minD, Br.opX_maxD, Br.opX_isB, Br.opX_isNB, Br.opX_isTy, Br.opX_slc, Br.opX_isEx, Br.opX_dict1, Br.opX_tupleX, Br.dn_non, Br.dn_bl, Br.dn_int, Br.dn_str, Br.dn_ty, Br.dn_exc, Br.dn_tup, Br.dn_xt, Br.dn_lst, Br.dn_dK, Br.dn_dT, Br.dn_dn, Br.isD_dn, Br.eqP_dnl, Br.eqP_dnr, tupleXP, opSem, addP, subP, mulP, fdivP, modP, powP, negP, eqOP, neOP, ltOP, leOP, gtOP, geOP, isNP, isNNP, isBP, isNBP, PV.isNon, lenP, sumP, absP, int1P, str1P, tuple1P, list1P, min2P, max2P, idxP, slcP, slcPart, dmodP, isTyOP, isTys, isTyP, tyName, ownV, Op.new, wipeE, Br.backE_nil, Br.backE_cons, Br.froO_f, Br.froO_n, Br.froO_0, Br.froO_o, seqOf, parE, ownL, keyP, recvOk, PV.isD, PV.isT, Br.eqP_ii, Br.eqP_ss, Br.eqP_bb, Br.eqP_nn, Br.eqP_tt, Br.eqP_ll, Br.eqPs_00, Br.eqPs_0c, Br.eqPs_c0, Br.eqPs_cc, Br.eqPs_ints, Br.eqP_xl, Br.eqP_xr, Br.eqP_ni, Br.eqP_ns, Br.eqP_nt, Br.eqP_nl, Br.eqP_nb, Br.eqP_in, Br.eqP_is, Br.eqP_it, Br.eqP_il, Br.eqP_sn, Br.eqP_si, Br.eqP_st, Br.eqP_sl, Br.eqP_sb, Br.eqP_tn, Br.eqP_ti, Br.eqP_ts, Br.eqP_tl, Br.eqP_tb, Br.eqP_ln, Br.eqP_li, Br.eqP_ls, Br.eqP_lt, Br.eqP_lb, Br.eqP_bn, Br.eqP_bs, Br.eqP_bt, Br.eqP_bl, intsOf, List.getElem?_cons_zero, List.getElem?_cons_succ, List.getElem?_nil, List.set_cons_zero, List.set_cons_succ, List.map_cons, List.map_nil, List.cons_append, List.nil_append, List.length_cons, List.length_nil, List.replicate_succ, List.replicate_zero, List.append_nil, Option.bind_some, Option.bind_none, Option.map_some, Option.map_none, if_true, if_false, ite_true, ite_false, decide_true, decide_false, Bool.and_true, Bool.true_and, Bool.not_true, Bool.not_false, reduceIte, Option.isSome_some, Br.kit_NoneType_int, Br.kit_NoneType_bool, Br.kit_NoneType_str, Br.kit_NoneType_tuple, Br.kit_NoneType_list, Br.kit_NoneType_dict, Br.kit_bool_int, Br.kit_bool_bool, Br.kit_bool_str, Br.kit_bool_tuple, Br.kit_bool_list, Br.kit_bool_dict, Br.kit_int_int, Br.kit_int_bool, Br.kit_int_str, Br.kit_int_tuple, Br.kit_int_list, Br.kit_int_dict, Br.kit_str_int, Br.kit_str_bool, Br.kit_str_str, Br.kit_str_tuple, Br.kit_str_list, Br.kit_str_dict, Br.kit_tuple_int, Br.kit_tuple_bool, Br.kit_tuple_str, Br.kit_tuple_tuple, Br.kit_tuple_list, Br.kit_tuple_dict, Br.kit_list_int, Br.kit_list_bool, Br.kit_list_str, Br.kit_list_tuple, Br.kit_list_list, Br.kit_list_dict, Br.kit_dict_int, Br.kit_dict_bool, Br.kit_dict_str, Br.kit_dict_tuple, Br.kit_dict_list, Br.kit_dict_dict, L2.ixN, Br.rng_ok, Br.mul_ok_r, Br.mul_ok_l, LIM, Br.PV.i_int, Br.log2_lt_9000, Br.atI_0, Br.atI_1, Br.atI_2, lcntP, lidxP, bitsP, revP, cntP, sortedDP, minDP, maxDP, sortX, Br.x_try, Br.tryK_nx, Br.tryK_rt, Br.tryK_bk, Br.tryK_ct, Br.suiteX_nx, Br.suiteX_bk, Br.suiteX_ct, Br.suiteX_rt, Br.setX_some, Br.setX_none, Br.goneX_some, Br.goneX_none, Br.x_lock, Br.kLock_d, Br.lockR_nx, Br.lockR_rt, Br.l_callT', Br.v_callT, Br.kT1, Br.kT2, Br.kT3, Br.kT4_eq, Br.dropT_ok, Br.dropT_ex, Br.dropT_st, Br.sh_val, Br.sh_ref, Br.kXt, Br.v_xtup, Br.l_xtup, Br.lockV_s, Br.thin_0, Br.thin_c, Br.thinO_n, Br.thinO_s, Br.thinL_f, Br.thinL_l, Br.thinL_d, Br.thinL_t, Br.noD_n, Br.noD_b, Br.noD_i, Br.noD_s, Br.noD_e, Br.noD_t, Br.noD_x, Br.noD_l, Br.noD_d, Br.noDs_0, Br.noDs_c, Br.noDs_i]
  obtain ⟨ρ2, h2, hρ⟩ := forL_inv (f := bindS (exSs ph_law_b5ac 1000000 bd_law_b5ac_2) (.one 1)) (xs := cutP (ns.map PV.int) none (some 63))
    (ρ := [some (.fro (.lst ((ns).map .int))), (l_cell), (l_pot), (l_d), (l_counts), some (.own (.lst [.int 0, .int 0, .int 0, .int 0, .int 0, .int 0, .int 0, .int 0, .int 0, .int 0, .int 0, .int 0])), (l_colour), none])
    (fun i ρ => ∃ (L : List Int) (l_cell l_pot l_d l_counts l_colour : Option LV), L.length = 12 ∧ (∀ y ∈ L, 0 ≤ y ∧ y ≤ i) ∧ ρ = [some (.fro (.lst ((ns).map .int))), l_cell, l_pot, l_d, l_counts, some (.own (.lst ((L).map .int))), l_colour, none])
    ⟨[0, 0, 0, 0, 0, 0, 0, 0, 0, 0, 0, 0], _, _, _, _, _, rfl, by simp, rfl⟩
    (fun i x ρ hx hi => by
      obtain ⟨L, l_cell, l_pot, l_d, l_counts, l_colour, hL, hy, rfl⟩ := hi
      obtain ⟨c, rfl⟩ : ∃ c, x = .int c := cutP_int (List.mem_of_getElem? hx)
      obtain ⟨a0, ha0, e0⟩ := deal_b321 c 1 (by omega) (by omega)
      have r0 := Int.emod_nonneg (a0 / 5) (show (12 : Int) ≠ 0 by omega)
      have r1 := Int.emod_lt_of_pos (a0 / 5) (show (0 : Int) < 12 by omega)
      generalize hr : a0 / 5 % 12 = r at r0 r1
      obtain ⟨z, hz, ez⟩ := atI_int (l := L) (x := r) r0 (by omega)
      have ep := k77_put (L := L) (x := r) (v := z + 1) r0 (by omega)
      refine ⟨[some (.fro (.lst ((ns).map .int))), some (.fro (.int (c))), l_pot, l_d, l_counts, some (.own (.lst ((L.set r.toNat (z + 1)).map .int))), some (.fro (.int (r))), none], .inl ?_, L.set r.toNat (z + 1), _, _, _, _, _, by rw [List.length_set]; exact hL, fun y h => ?_, rfl⟩
      · simp -implicitDefEqProofs [ioOk, Br.frameOf, lvsOf, Br.exSs_nil, Br.exSs_cons, SO.seq_nx, SO.seq_rt, SO.seq_ex, SO.seq_bk, SO.seq_ct, SO.seq_st, SO.fin_nx, SO.fin_rt, SO.fin_ex, Br.v_app, Br.v_mth, Br.v_tup, Br.v_lst, Br.v_cst, Br.v_dnew, Br.v_var, Br.v_call, Br.v_and, Br.v_or, Br.v_not, Br.v_ite, Br.v_chain, Br.v_sl2, Br.v_comp, Br.v_aref, Br.v_aval, Br.v_as0, Br.v_as, Br.v_es0, Br.v_es, Br.v_tand, Br.v_tor, Br.v_tnot, Br.v_te, Br.v_ts0, Br.v_ts1, Br.v_seq, Br.v_rng1, Br.v_rng2, Br.v_enum, Br.v_zip, Br.v_popE, Br.v_dispV, Br.l_dispV', Br.v_popL, Br.l_popE, Br.l_popL, Br.kPopE_eq, Br.putE_some, Br.putE_none, Br.v_rev, Br.l_app, Br.l_mth', Br.l_lst', Br.l_dnew', Br.l_call', Br.l_comp', Br.l_var, Br.l_cst, Br.l_tup, Br.l_and, Br.l_or, Br.l_not, Br.l_ite, Br.l_chain, Br.l_sl2, Br.x_set, Br.x_unp, Br.x_par, Br.x_setIx, Br.x_app, Br.x_ext, Br.x_popA, Br.x_insA, Br.kPopA, Br.kIns1, Br.kIns2, Br.x_ex, Br.x_ret, Br.x_retV, Br.x_retN, Br.x_if, Br.x_whl, Br.x_brk, Br.x_cont, Br.x_pass, Br.x_raise, Br.kOp, Br.kVal, Br.kCons, Br.kAs, Br.kConsE, Br.kEs, Br.kTup, Br.kLst, Br.kCall, Br.kMth2, Br.kMth, Br.kAnd, Br.kOr, Br.kNot, Br.kIte, Br.kCh4, Br.kCh3, Br.kCh2b, Br.kCh2, Br.kCh1, Br.kS3, Br.kS2, Br.kS1, Br.kC6, Br.kC5, Br.kC4, Br.kC3, Br.kC0, Br.kC2, Br.kC1, Br.kTand, Br.kTor, Br.kTnot, Br.kTe, Br.kSeq, Br.kR1, Br.kR3, Br.kR2, Br.kEn, Br.kZ2, Br.kZ1, Br.kRv, Br.kOwn, Br.kFro, Br.kOwnV, Br.kCallL, Br.kSet, Br.kUnp, Br.kPar, Br.kSI2, Br.kSI1, Br.kApp, Br.kExt, Br.kEx, Br.kRet, Br.kIf, Br.kFor, Br.ifE_t, Br.ifE_f, Br.ifS_t, Br.ifS_f, Br.okE_eq, Br.cF, Br.x_for, ne_eq, reduceCtorEq, not_false_eq_true, implies_true, ER.bind_ok, ER.bind_ex, ER.bind_st, ER.so_ok, ER.so_ex, ER.so_st, ER.of_some, ER.of_none, SO.of_some, SO.of_none, Br.bindS_k, Br.bindK_some, Br.bindK_none, Tg.bind, Tg.binds, at', setIxP, AV.pvs, AV.pv, AV.lvs, AV.lv, AV.refs, AV.back, maskL, LV.isFro, LV.pv, Br.callE_k, Br.callK0_some, Br.callK_ok, Br.callK_ex, froE, Br.opX_add, Br.opX_sub, Br.opX_mul, Br.opX_fdiv, Br.opX_mod, Br.opX_pow, Br.opX_neg, Br.opX_eq, Br.opX_ne, Br.opX_lt, Br.opX_le, Br.opX_gt, Br.opX_ge, Br.opX_isN, Br.opX_isNN, Br.opX_inn, Br.opX_nin, Br.opX_len, Br.opX_sum, Br.opX_abs, Br.opX_int1, Br.opX_str1, Br.opX_tuple1, Br.opX_list1, Br.opX_sorted, Br.opX_allL, Br.opX_anyL, Br.opX_min2, Br.opX_max2, Br.opX_minL, Br.opX_maxL, Br.opX_idx, Br.opX_rev, Br.opX_dget, Br.opX_values, Br.opX_dmod, Br.opX_lcnt, Br.opX_tcnt, Br.opX_lidx, Br.opX_bits, Br.opX_sortedD, Br.opX_minD, Br.opX_maxD, Br.opX_isB, Br.opX_isNB, Br.opX_isTy, Br.opX_slc, Br.opX_isEx, Br.opX_dict1, Br.opX_tupleX, Br.dn_non, Br.dn_bl, Br.dn_int, Br.dn_str, Br.dn_ty, Br.dn_exc, Br.dn_tup, Br.dn_xt, Br.dn_lst, Br.dn_dK, Br.dn_dT, Br.dn_dn, Br.isD_dn, Br.eqP_dnl, Br.eqP_dnr, tupleXP, opSem, addP, subP, mulP, fdivP, modP, powP, negP, eqOP, neOP, ltOP, leOP, gtOP, geOP, isNP, isNNP, isBP, isNBP, PV.isNon, lenP, sumP, absP, int1P, str1P, tuple1P, list1P, min2P, max2P, idxP, slcP, slcPart, dmodP, isTyOP, isTys, isTyP, tyName, ownV, Op.new, wipeE, Br.backE_nil, Br.backE_cons, Br.froO_f, Br.froO_n, Br.froO_0, Br.froO_o, seqOf, parE, ownL, keyP, recvOk, PV.isD, PV.isT, Br.eqP_ii, Br.eqP_ss, Br.eqP_bb, Br.eqP_nn, Br.eqP_tt, Br.eqP_ll, Br.eqPs_00, Br.eqPs_0c, Br.eqPs_c0, Br.eqPs_cc, Br.eqPs_ints, Br.eqP_xl, Br.eqP_xr, Br.eqP_ni, Br.eqP_ns, Br.eqP_nt, Br.eqP_nl, Br.eqP_nb, Br.eqP_in, Br.eqP_is, Br.eqP_it, Br.eqP_il, Br.eqP_sn, Br.eqP_si, Br.eqP_st, Br.eqP_sl, Br.eqP_sb, Br.eqP_tn, Br.eqP_ti, Br.eqP_ts, Br.eqP_tl, Br.eqP_tb, Br.eqP_ln, Br.eqP_li, Br.eqP_ls, Br.eqP_lt, Br.eqP_lb, Br.eqP_bn, Br.eqP_bs, Br.eqP_bt, Br.eqP_bl, intsOf, List.getElem?_cons_zero, List.getElem?_cons_succ, List.getElem?_nil, List.set_cons_zero, List.set_cons_succ, List.map_cons, List.map_nil, List.cons_append, List.nil_append, List.length_cons, List.length_nil, List.replicate_succ, List.replicate_zero, List.append_nil, Option.bind_some, Option.bind_none, Option.map_some, Option.map_none, if_true, if_false, ite_true, ite_false, decide_true, decide_false, Bool.and_true, Bool.true_and, Bool.not_true, Bool.not_false, reduceIte, Option.isSome_some, Br.kit_NoneType_int, Br.kit_NoneType_bool, Br.kit_NoneType_str, Br.kit_NoneType_tuple, Br.kit_NoneType_list, Br.kit_NoneType_dict, Br.kit_bool_int, Br.kit_bool_bool, Br.kit_bool_str, Br.kit_bool_tuple, Br.kit_bool_list, Br.kit_bool_dict, Br.kit_int_int, Br.kit_int_bool, Br.kit_int_str, Br.kit_int_tuple, Br.kit_int_list, Br.kit_int_dict, Br.kit_str_int, Br.kit_str_bool, Br.kit_str_str, Br.kit_str_tuple, Br.kit_str_list, Br.kit_str_dict, Br.kit_tuple_int, Br.kit_tuple_bool, Br.kit_tuple_str, Br.kit_tuple_tuple, Br.kit_tuple_list, Br.kit_tuple_dict, Br.kit_list_int, Br.kit_list_bool, Br.kit_list_str, Br.kit_list_tuple, Br.kit_list_list, Br.kit_list_dict, Br.kit_dict_int, Br.kit_dict_bool, Br.kit_dict_str, Br.kit_dict_tuple, Br.kit_dict_list, Br.kit_dict_dict, L2.ixN, Br.rng_ok, Br.mul_ok_r, Br.mul_ok_l, LIM, Br.PV.i_int, Br.log2_lt_9000, Br.atI_0, Br.atI_1, Br.atI_2, lcntP, lidxP, bitsP, revP, cntP, sortedDP, minDP, maxDP, sortX, Br.x_try, Br.tryK_nx, Br.tryK_rt, Br.tryK_bk, Br.tryK_ct, Br.suiteX_nx, Br.suiteX_bk, Br.suiteX_ct, Br.suiteX_rt, Br.setX_some, Br.setX_none, Br.goneX_some, Br.goneX_none, Br.x_lock, Br.kLock_d, Br.lockR_nx, Br.lockR_rt, Br.l_callT', Br.v_callT, Br.kT1, Br.kT2, Br.kT3, Br.kT4_eq, Br.dropT_ok, Br.dropT_ex, Br.dropT_st, Br.sh_val, Br.sh_ref, Br.kXt, Br.v_xtup, Br.l_xtup, Br.lockV_s, Br.thin_0, Br.thin_c, Br.thinO_n, Br.thinO_s, Br.thinL_f, Br.thinL_l, Br.thinL_d, Br.thinL_t, Br.noD_n, Br.noD_b, Br.noD_i, Br.noD_s, Br.noD_e, Br.noD_t, Br.noD_x, Br.noD_l, Br.noD_d, Br.noDs_0, Br.noDs_c, Br.noDs_i, bd_law_b5ac_2, ph_law_b5ac, e0, hr, ez, -setIxP, ep]
      · have := hy z hz
        rcases List.mem_or_eq_of_mem_set h with h | rfl
        · have := hy y h
          omega
        · omega)
  obtain ⟨L, l_cell, l_pot, l_d, l_counts, l_colour, hL, hy, rfl⟩ := hρ
  have hxs : (cutP (ns.map PV.int) none (some 63)).length ≤ 63 := by
    have := cutP_len (ns.map .int) none (some 63)
    rw [List.length_map] at this
    omega
  rw [h2]
  obtain ⟨a0, ha0, e0⟩ := deal_b321 ns.sum 60 (by omega) (by omega)
  have r0 := Int.emod_nonneg (ns.length : Int) (show (5 : Int) ≠ 0 by omega)
  have r1 := Int.emod_lt_of_pos (ns.length : Int) (show (0 : Int) < 5 by omega)
  obtain ⟨a3, ha3, e3⟩ := changed_6199 (a := a0) (d := 1 + (ns.length : Int) % 5) (cs := L) ha0 (fun h => by rw [h] at hL; cases hL) (by omega) (by omega) (by omega) (fun y h => by have := hy y h; omega)
  have hL2 : L.length ≤ 1000000 := by omega
  simp -implicitDefEqProofs [ioOk, Br.frameOf, lvsOf, Br.exSs_nil, Br.exSs_cons, SO.seq_nx, SO.seq_rt, SO.seq_ex, SO.seq_bk, SO.seq_ct, SO.seq_st, SO.fin_nx, SO.fin_rt, SO.fin_ex, Br.v_app, Br.v_mth, Br.v_tup, Br.v_lst, Br.v_cst, Br.v_dnew, Br.v_var, Br.v_call, Br.v_and, Br.v_or, Br.v_not, Br.v_ite, Br.v_chain, Br.v_sl2, Br.v_comp, Br.v_aref, Br.v_aval, Br.v_as0, Br.v_as, Br.v_es0, Br.v_es, Br.v_tand, Br.v_tor, Br.v_tnot, Br.v_te, Br.v_ts0, Br.v_ts1, Br.v_seq, Br.v_rng1, Br.v_rng2, Br.v_enum, Br.v_zip, Br.v_popE, Br.v_dispV, Br.l_dispV', Br.v_popL, Br.l_popE, Br.l_popL, Br.kPopE_eq, Br.putE_some, Br.putE_none, Br.v_rev, Br.l_app, Br.l_mth', Br.l_lst', Br.l_dnew', Br.l_call', Br.l_comp', Br.l_var, Br.l_cst, Br.l_tup, Br.l_and, Br.l_or, Br.l_not, Br.l_ite, Br.l_chain, Br.l_sl2, Br.x_set, Br.x_unp, Br.x_par, Br.x_setIx, Br.x_app, Br.x_ext, Br.x_popA, Br.x_insA, Br.kPopA, Br.kIns1, Br.kIns2, Br.x_ex, Br.x_ret, Br.x_retV, Br.x_retN, Br.x_if, Br.x_whl, Br.x_brk, Br.x_cont, Br.x_pass, Br.x_raise, Br.kOp, Br.kVal, Br.kCons, Br.kAs, Br.kConsE, Br.kEs, Br.kTup, Br.kLst, Br.kCall, Br.kMth2, Br.kMth, Br.kAnd, Br.kOr, Br.kNot, Br.kIte, Br.kCh4, Br.kCh3, Br.kCh2b, Br.kCh2, Br.kCh1, Br.kS3, Br.kS2, Br.kS1, Br.kC6, Br.kC5, Br.kC4, Br.kC3, Br.kC0, Br.kC2, Br.kC1, Br.kTand, Br.kTor, Br.kTnot, Br.kTe, Br.kSeq, Br.kR1, Br.kR3, Br.kR2, Br.kEn, Br.kZ2, Br.kZ1, Br.kRv, Br.kOwn, Br.kFro, Br.kOwnV, Br.kCallL, Br.kSet, Br.kUnp, Br.kPar, Br.kSI2, Br.kSI1, Br.kApp, Br.kExt, Br.kEx, Br.kRet, Br.kIf, Br.kFor, Br.ifE_t, Br.ifE_f, Br.ifS_t, Br.ifS_f, Br.okE_eq, Br.cF, Br.x_for, ne_eq, reduceCtorEq, not_false_eq_true, implies_true, ER.bind_ok, ER.bind_ex, ER.bind_st, ER.so_ok, ER.so_ex, ER.so_st, ER.of_some, ER.of_none, SO.of_some, SO.of_none, Br.bindS_k, Br.bindK_some, Br.bindK_none, Tg.bind, Tg.binds, at', setIxP, AV.pvs, AV.pv, AV.lvs, AV.lv, AV.refs, AV.back, maskL, LV.isFro, LV.pv, Br.callE_k, Br.callK0_some, Br.callK_ok, Br.callK_ex, froE, Br.opX_add, Br.opX_sub, Br.opX_mul, Br.opX_fdiv, Br.opX_mod, Br.opX_pow, Br.opX_neg, Br.opX_eq, Br.opX_ne, Br.opX_lt, Br.opX_le, Br.opX_gt, Br.opX_ge, Br.opX_isN, Br.opX_isNN, Br.opX_inn, Br.opX_nin, Br.opX_len, Br.opX_sum, Br.opX_abs, Br.opX_int1, Br.opX_str1, Br.opX_tuple1, Br.opX_list1, Br.opX_sorted, Br.opX_allL, Br.opX_anyL, Br.opX_min2, Br.opX_max2, Br.opX_minL, Br.opX_maxL, Br.opX_idx, Br.opX_rev, Br.opX_dget, Br.opX_values, Br.opX_dmod, Br.opX_lcnt, Br.opX_tcnt, Br.opX_lidx, Br.opX_bits, Br.opX_sortedD, Br.opX_minD, Br.opX_maxD, Br.opX_isB, Br.opX_isNB, Br.opX_isTy, Br.opX_slc, Br.opX_isEx, Br.opX_dict1, Br.opX_tupleX, Br.dn_non, Br.dn_bl, Br.dn_int, Br.dn_str, Br.dn_ty, Br.dn_exc, Br.dn_tup, Br.dn_xt, Br.dn_lst, Br.dn_dK, Br.dn_dT, Br.dn_dn, Br.isD_dn, Br.eqP_dnl, Br.eqP_dnr, tupleXP, opSem, addP, subP, mulP, fdivP, modP, powP, negP, eqOP, neOP, ltOP, leOP, gtOP, geOP, isNP, isNNP, isBP, isNBP, PV.isNon, lenP, sumP, absP, int1P, str1P, tuple1P, list1P, min2P, max2P, idxP, slcP, slcPart, dmodP, isTyOP, isTys, isTyP, tyName, ownV, Op.new, wipeE, Br.backE_nil, Br.backE_cons, Br.froO_f, Br.froO_n, Br.froO_0, Br.froO_o, seqOf, parE, ownL, keyP, recvOk, PV.isD, PV.isT, Br.eqP_ii, Br.eqP_ss, Br.eqP_bb, Br.eqP_nn, Br.eqP_tt, Br.eqP_ll, Br.eqPs_00, Br.eqPs_0c, Br.eqPs_c0, Br.eqPs_cc, Br.eqPs_ints, Br.eqP_xl, Br.eqP_xr, Br.eqP_ni, Br.eqP_ns, Br.eqP_nt, Br.eqP_nl, Br.eqP_nb, Br.eqP_in, Br.eqP_is, Br.eqP_it, Br.eqP_il, Br.eqP_sn, Br.eqP_si, Br.eqP_st, Br.eqP_sl, Br.eqP_sb, Br.eqP_tn, Br.eqP_ti, Br.eqP_ts, Br.eqP_tl, Br.eqP_tb, Br.eqP_ln, Br.eqP_li, Br.eqP_ls, Br.eqP_lt, Br.eqP_lb, Br.eqP_bn, Br.eqP_bs, Br.eqP_bt, Br.eqP_bl, intsOf, List.getElem?_cons_zero, List.getElem?_cons_succ, List.getElem?_nil, List.set_cons_zero, List.set_cons_succ, List.map_cons, List.map_nil, List.cons_append, List.nil_append, List.length_cons, List.length_nil, List.replicate_succ, List.replicate_zero, List.append_nil, Option.bind_some, Option.bind_none, Option.map_some, Option.map_none, if_true, if_false, ite_true, ite_false, decide_true, decide_false, Bool.and_true, Bool.true_and, Bool.not_true, Bool.not_false, reduceIte, Option.isSome_some, Br.kit_NoneType_int, Br.kit_NoneType_bool, Br.kit_NoneType_str, Br.kit_NoneType_tuple, Br.kit_NoneType_list, Br.kit_NoneType_dict, Br.kit_bool_int, Br.kit_bool_bool, Br.kit_bool_str, Br.kit_bool_tuple, Br.kit_bool_list, Br.kit_bool_dict, Br.kit_int_int, Br.kit_int_bool, Br.kit_int_str, Br.kit_int_tuple, Br.kit_int_list, Br.kit_int_dict, Br.kit_str_int, Br.kit_str_bool, Br.kit_str_str, Br.kit_str_tuple, Br.kit_str_list, Br.kit_str_dict, Br.kit_tuple_int, Br.kit_tuple_bool, Br.kit_tuple_str, Br.kit_tuple_tuple, Br.kit_tuple_list, Br.kit_tuple_dict, Br.kit_list_int, Br.kit_list_bool, Br.kit_list_str, Br.kit_list_tuple, Br.kit_list_list, Br.kit_list_dict, Br.kit_dict_int, Br.kit_dict_bool, Br.kit_dict_str, Br.kit_dict_tuple, Br.kit_dict_list, Br.kit_dict_dict, L2.ixN, Br.rng_ok, Br.mul_ok_r, Br.mul_ok_l, LIM, Br.PV.i_int, Br.log2_lt_9000, Br.atI_0, Br.atI_1, Br.atI_2, lcntP, lidxP, bitsP, revP, cntP, sortedDP, minDP, maxDP, sortX, Br.x_try, Br.tryK_nx, Br.tryK_rt, Br.tryK_bk, Br.tryK_ct, Br.suiteX_nx, Br.suiteX_bk, Br.suiteX_ct, Br.suiteX_rt, Br.setX_some, Br.setX_none, Br.goneX_some, Br.goneX_none, Br.x_lock, Br.kLock_d, Br.lockR_nx, Br.lockR_rt, Br.l_callT', Br.v_callT, Br.kT1, Br.kT2, Br.kT3, Br.kT4_eq, Br.dropT_ok, Br.dropT_ex, Br.dropT_st, Br.sh_val, Br.sh_ref, Br.kXt, Br.v_xtup, Br.l_xtup, Br.lockV_s, Br.thin_0, Br.thin_c, Br.thinO_n, Br.thinO_s, Br.thinL_f, Br.thinL_l, Br.thinL_d, Br.thinL_t, Br.noD_n, Br.noD_b, Br.noD_i, Br.noD_s, Br.noD_e, Br.noD_t, Br.noD_x, Br.noD_l, Br.noD_d, Br.noDs_0, Br.noDs_c, Br.noDs_i, ph_law_b5ac, e0, e3, hL2]
end Cm
set_option maxHeartbeats 0
namespace Lk77
open PySem PySem.Spec PyProof.Rows L2 Br Cm
/-! what stands behind the top -/
def top (i : Nat) : Stmt := PySem.Challenge.pw_brimyard_k77_whole_counts_changed.main.body.getD i (.Pass ⟨0, 0, 0, 0⟩)
abbrev s__law_deal : Stmt := top 5
abbrev s__law_take : Stmt := top 6
abbrev s_used_of : Stmt := top 1
abbrev s__law_counts : Stmt := top 7
abbrev s_are_enough : Stmt := top 2
abbrev s_most_bins : Stmt := top 3
abbrev s__law_changed_right : Stmt := top 8
abbrev s_law : Stmt := top 9
structure Hx (K : PySem.W.Frag) (mg : Str → Option Value) : Prop where
  d__law_deal : Dn K mg "_law_deal" s__law_deal
  d__law_take : Dn K mg "_law_take" s__law_take
  d_used_of : Dn K mg "used_of" s_used_of
  d__law_counts : Dn K mg "_law_counts" s__law_counts
  d_are_enough : Dn K mg "are_enough" s_are_enough
  d_most_bins : Dn K mg "most_bins" s_most_bins
  d__law_changed_right : Dn K mg "_law_changed_right" s__law_changed_right
  d_law : Dn K mg "law" s_law
  b_any : mg "any" = none
  b_divmod : mg "divmod" = none
  b_len : mg "len" = none
  b_list : mg "list" = none
  b_max : mg "max" = none
  b_min : mg "min" = none
  b_range : mg "range" = none
  b_sum : mg "sum" = none
  b_tuple : mg "tuple" = none
section
variable {P : Program} {w : World} {K : PySem.W.Frag} {mg : Str → Option Value} {base : Heap}
theorem sc__law_deal : FnScope ["cell", "many", "number", "one", "k", "two"] ["cell", "many"] (defScope s__law_deal) := ⟨rfl, rfl, rfl, by decide +kernel, rfl, by decide +kernel, by decide +kernel⟩
theorem ok__law_deal (h : Hx K mg) : Ok P w K mg base 1 "_law_deal" ["cell", "many"] g_law_deal_b321 :=
  def_at ir_law_deal_b321 h.d__law_deal sc__law_deal rfl rfl (fun _ _ _ _ _ _ us hl => match us, hl with | [_, _], _ => rfl) fun cdv A outer s H E C bx =>
      (ss_cons (st_if (x_ge bx.o.toXO (a_var (i := 0) rfl (visBy rfl)) (a_val (e_op (b_pow bx.o.toXO (a_val e_int) (a_val e_int))))) (ss_cons (st_ret (l_lst (es_cons (e_op (b_sub bx.o.toXO (a_var (i := 0) rfl (visBy rfl)) (a_val (e_op (b_pow bx.o.toXO (a_val e_int) (a_val e_int)))))) es_nil)))
      ss_nil) ss_nil)
      (ss_cons (st_set (i := 2) bx.o.toXO rfl (locBy rfl) (by decide) (l_of e_int) rfl (.inl rfl))
      (ss_cons (st_set (i := 3) bx.o.toXO rfl (locBy rfl) (by decide) (l_op (b_mod bx.o.toXO (a_val (e_op (b_mul bx.o.toXO (a_val (e_op (b_add bx.o.toXO (a_val (e_op (b_mod bx.o.toXO (a_var (i := 0) rfl (visBy rfl)) (a_val e_int)))) (a_val e_int)))) (a_val e_int)))) (a_val e_int))) rfl (.inl rfl))
      (ss_cons (st_for bx.o bx.po (s_rng1 (by rfl) h.b_range (e_var (i := 1) rfl (visBy rfl))) (g_name bx.o.toXO (i := 4) rfl (locBy rfl)) (by decide) (ss_cons (st_set (i := 3) bx.o.toXO rfl (locBy rfl) (by decide) (l_op (b_mod bx.o.toXO (a_val (e_op (b_add bx.o.toXO (a_val (e_op (b_add bx.o.toXO (a_val (e_op (b_mul bx.o.toXO (a_var (i := 3) rfl (visBy rfl)) (a_val e_int)))) (a_var (i := 4) rfl (visBy rfl))))) (a_val e_int)))) (a_val e_int))) rfl (.inl rfl))
      (ss_cons (st_set (i := 5) bx.o.toXO rfl (locBy rfl) (by decide) (l_op (b_mod bx.o.toXO (a_val (e_op (b_mul bx.o.toXO (a_var (i := 3) rfl (visBy rfl)) (a_var (i := 3) rfl (visBy rfl))))) (a_val e_int))) rfl (.inl rfl))
      (ss_cons (st_set (i := 2) bx.o.toXO rfl (locBy rfl) (by decide) (l_op (b_add bx.o.toXO (a_val (e_op (b_mul bx.o.toXO (a_var (i := 2) rfl (visBy rfl)) (a_val e_int)))) (a_val (e_op (b_mod bx.o.toXO (a_val (e_op (b_add bx.o.toXO (a_val (e_op (b_fdiv bx.o.toXO (a_var (i := 5) rfl (visBy rfl)) (a_val e_int)))) (a_var (i := 5) rfl (visBy rfl))))) (a_val e_int)))))) rfl (.inl rfl))
      ss_nil))))
      (ss_cons (st_ret (l_lst (es_cons (e_var (i := 2) rfl (visBy rfl)) es_nil)))
      ss_nil)))))
theorem sc__law_take : FnScope ["pot", "many", "digit"] ["pot", "many"] (defScope s__law_take) := ⟨rfl, rfl, rfl, by decide +kernel, rfl, by decide +kernel, by decide +kernel⟩
theorem ok__law_take (h : Hx K mg) : Ok P w K mg base 1 "_law_take" ["pot", "many"] g_law_take_9d40 :=
  def_at ir_law_take_9d40 h.d__law_take sc__law_take rfl rfl (fun _ _ _ _ _ _ us hl => match us, hl with | [_, _], _ => rfl) fun cdv A outer s H E C bx =>
      (ss_cons (st_unp (by decide) (e_op (f_dmod bx.o.toXO rfl h.b_divmod (a_val (e_op (o_ix bx.o.toXO (a_var (i := 0) rfl (visBy rfl)) (a_val e_int)))) (a_var (i := 1) rfl (visBy rfl)))) (g_tup bx.o (gs_cons (g_at bx.o.toXO (i := 0) rfl (visBy rfl)) (gs_cons (g_name bx.o.toXO (i := 2) rfl (locBy rfl)) gs_nil))))
      (ss_cons (st_retV (i := 2) rfl (visBy rfl))
      ss_nil))
theorem sc_used_of : FnScope ["counts", "number", "count"] ["counts", "number"] (defScope s_used_of) := ⟨rfl, rfl, rfl, by decide +kernel, rfl, by decide +kernel, by decide +kernel⟩
theorem ok_used_of (h : Hx K mg) : Ok P w K mg base 1 "used_of" ["counts", "number"] g_used_of_c33a :=
  def_at ir_used_of_c33a h.d_used_of sc_used_of rfl rfl (fun _ _ _ _ _ _ us hl => match us, hl with | [_, _], _ => rfl) fun cdv A outer s H E C bx =>
      (ss_cons (st_ret (l_comp bx.o (own := [("count", 2)]) (s_seq bx.o.toXO (e_var (i := 0) rfl (visBy rfl))) (blkOk_by (by rfl)) (by decide) (fun C1 h1 s1 H1 D1 c1 l1 => (g_name (bx.o.blk h1).toXO (i := 2) rfl (locBy rfl))) (fun C1 h1 s1 H1 D1 c1 l1 => ts_nil) (fun C1 h1 s1 H1 D1 c1 l1 => (e_op (f_min2 (bx.o.blk h1) rfl h.b_min (a_var (i := 2) rfl (visBy rfl)) (a_var (i := 1) rfl (visBy rfl)))))))
      ss_nil)
theorem sc__law_counts : FnScope ["pot", "many", "kind", "base", "found", "k"] ["pot"] (defScope s__law_counts) := ⟨rfl, rfl, rfl, by decide +kernel, rfl, by decide +kernel, by decide +kernel⟩
theorem ok__law_counts (h : Hx K mg) : Ok P w K mg base 2 "_law_counts" ["pot"] g_law_counts_30cb :=
  def_at ir_law_counts_30cb h.d__law_counts sc__law_counts rfl rfl (fun _ _ _ _ _ _ us hl => match us, hl with | [_], _ => rfl) fun cdv A outer s H E C bx =>
      (ss_cons (st_set (i := 1) bx.o.toXO rfl (locBy rfl) (by decide) (l_op (b_add bx.o.toXO (a_val e_int) (a_val (e_call (l_fn bx.o.toXO (j := 364) (ok__law_take h) (bx.room.mono (by decide)) rfl bx.tk (as_cons (a_var (i := 0) rfl (visBy rfl)) (as_cons (a_val e_int) as_nil))))))) rfl (.inl rfl))
      (ss_cons (st_set (i := 2) bx.o.toXO rfl (locBy rfl) (by decide) (l_fn bx.o.toXO (j := 364) (ok__law_take h) (bx.room.mono (by decide)) rfl bx.tk (as_cons (a_var (i := 0) rfl (visBy rfl)) (as_cons (a_val e_int) as_nil))) rfl (.inl rfl))
      (ss_cons (st_set (i := 3) bx.o.toXO rfl (locBy rfl) (by decide) (l_fn bx.o.toXO (j := 364) (ok__law_take h) (bx.room.mono (by decide)) rfl bx.tk (as_cons (a_var (i := 0) rfl (visBy rfl)) (as_cons (a_val (e_op (o_ix bx.o.toXO (a_val (e_lst (l_lst (es_cons e_int (es_cons e_int (es_cons (e_op (b_pow bx.o.toXO (a_val e_int) (a_val e_int))) (es_cons (e_op (b_pow bx.o.toXO (a_val e_int) (a_val e_int))) (es_cons (e_op (b_pow bx.o.toXO (a_val e_int) (a_val e_int))) es_nil)))))))) (a_val (e_call (l_fn bx.o.toXO (j := 364) (ok__law_take h) (bx.room.mono (by decide)) rfl bx.tk (as_cons (a_var (i := 0) rfl (visBy rfl)) (as_cons (a_val e_int) as_nil)))))))) as_nil))) rfl (.inl rfl))
      (ss_cons (st_set (i := 4) bx.o.toXO rfl (locBy rfl) (by decide) (l_lst es_nil) rfl (.inl rfl))
      (ss_cons (st_for bx.o bx.po (s_rng1 (by rfl) h.b_range (e_var (i := 1) rfl (visBy rfl))) (g_name bx.o.toXO (i := 5) rfl (locBy rfl)) (by decide) (ss_cons (st_if (x_eq bx.o.toXO (a_var (i := 2) rfl (visBy rfl)) (a_val e_int)) (ss_cons (st_app (i := 4) rfl (visBy rfl) (e_var (i := 3) rfl (visBy rfl)))
      ss_nil) (ss_cons (st_if (x_eq bx.o.toXO (a_var (i := 2) rfl (visBy rfl)) (a_val e_int)) (ss_cons (st_app (i := 4) rfl (visBy rfl) (e_call (l_fn bx.o.toXO (j := 364) (ok__law_take h) (bx.room.mono (by decide)) rfl bx.tk (as_cons (a_var (i := 0) rfl (visBy rfl)) (as_cons (a_val e_int) as_nil)))))
      ss_nil) (ss_cons (st_if (x_eq bx.o.toXO (a_var (i := 2) rfl (visBy rfl)) (a_val e_int)) (ss_cons (st_app (i := 4) rfl (visBy rfl) (e_op (b_add bx.o.toXO (a_var (i := 3) rfl (visBy rfl)) (a_val (e_call (l_fn bx.o.toXO (j := 364) (ok__law_take h) (bx.room.mono (by decide)) rfl bx.tk (as_cons (a_var (i := 0) rfl (visBy rfl)) (as_cons (a_val e_int) as_nil))))))))
      (ss_cons (st_set (i := 3) bx.o.toXO rfl (locBy rfl) (by decide) (l_op (b_fdiv bx.o.toXO (a_var (i := 3) rfl (visBy rfl)) (a_val e_int))) rfl (.inl rfl))
      ss_nil)) (ss_cons (st_if (x_eq bx.o.toXO (a_var (i := 2) rfl (visBy rfl)) (a_val e_int)) (ss_cons (st_app (i := 4) rfl (visBy rfl) (e_op (o_ix bx.o.toXO (a_val (e_lst (l_lst (es_cons (e_op (b_sub bx.o.toXO (a_val (e_op (b_pow bx.o.toXO (a_val e_int) (a_val e_int)))) (a_val (e_call (l_fn bx.o.toXO (j := 364) (ok__law_take h) (bx.room.mono (by decide)) rfl bx.tk (as_cons (a_var (i := 0) rfl (visBy rfl)) (as_cons (a_val e_int) as_nil))))))) (es_cons (e_call (l_fn bx.o.toXO (j := 364) (ok__law_take h) (bx.room.mono (by decide)) rfl bx.tk (as_cons (a_var (i := 0) rfl (visBy rfl)) (as_cons (a_val e_int) as_nil)))) (es_cons e_int es_nil)))))) (a_val (e_call (l_fn bx.o.toXO (j := 364) (ok__law_take h) (bx.room.mono (by decide)) rfl bx.tk (as_cons (a_var (i := 0) rfl (visBy rfl)) (as_cons (a_val e_int) as_nil))))))))
      ss_nil) (ss_cons (st_app (i := 4) rfl (visBy rfl) (e_call (l_fn bx.o.toXO (j := 364) (ok__law_take h) (bx.room.mono (by decide)) rfl bx.tk (as_cons (a_var (i := 0) rfl (visBy rfl)) (as_cons (a_val (e_op (b_add bx.o.toXO (a_var (i := 3) rfl (visBy rfl)) (a_val e_int)))) as_nil)))))
      ss_nil))
      ss_nil))
      ss_nil))
      ss_nil))
      ss_nil))
      (ss_cons (st_ret (l_op (f_tuple bx.o.toXO rfl h.b_tuple (a_var (i := 4) rfl (visBy rfl)))))
      ss_nil))))))
theorem sc_are_enough : FnScope ["counts", "d", "number"] ["counts", "d", "number"] (defScope s_are_enough) := ⟨rfl, rfl, rfl, by decide +kernel, rfl, by decide +kernel, by decide +kernel⟩
theorem ok_are_enough (h : Hx K mg) : Ok P w K mg base 2 "are_enough" ["counts", "d", "number"] g_are_enough_4dd2 :=
  def_at ir_are_enough_4dd2 h.d_are_enough sc_are_enough rfl rfl (fun _ _ _ _ _ _ us hl => match us, hl with | [_, _, _], _ => rfl) fun cdv A outer s H E C bx =>
      (ss_cons (st_ret (l_op (c_ge bx.o.toXO (a_val (e_op (f_sum bx.o rfl h.b_sum (a_val (e_call (l_fn bx.o.toXO (j := 629) (ok_used_of h) (bx.room.mono (by decide)) rfl bx.tk (as_cons (a_var (i := 0) rfl (visBy rfl)) (as_cons (a_var (i := 2) rfl (visBy rfl)) as_nil)))))))) (a_val (e_op (b_mul bx.o.toXO (a_var (i := 1) rfl (visBy rfl)) (a_var (i := 2) rfl (visBy rfl))))))))
      ss_nil)
theorem sc_most_bins : FnScope ["counts", "d", "low", "high", "middle"] ["counts", "d"] (defScope s_most_bins) := ⟨rfl, rfl, rfl, by decide +kernel, rfl, by decide +kernel, by decide +kernel⟩
theorem ok_most_bins (h : Hx K mg) : Ok P w K mg base 3 "most_bins" ["counts", "d"] g_most_bins_52e0 :=
  def_at ir_most_bins_52e0 h.d_most_bins sc_most_bins rfl rfl (fun _ _ _ _ _ _ us hl => match us, hl with | [_, _], _ => rfl) fun cdv A outer s H E C bx =>
      (ss_cons (st_set (i := 2) bx.o.toXO rfl (locBy rfl) (by decide) (l_of e_int) rfl (.inl rfl))
      (ss_cons (st_set (i := 3) bx.o.toXO rfl (locBy rfl) (by decide) (l_op (b_fdiv bx.o.toXO (a_val (e_op (f_sum bx.o rfl h.b_sum (a_var (i := 0) rfl (visBy rfl))))) (a_var (i := 1) rfl (visBy rfl)))) rfl (.inl rfl))
      (ss_cons (st_whl bx.po (x_lt bx.o.toXO (a_var (i := 2) rfl (visBy rfl)) (a_var (i := 3) rfl (visBy rfl))) (ss_cons (st_set (i := 4) bx.o.toXO rfl (locBy rfl) (by decide) (l_op (b_fdiv bx.o.toXO (a_val (e_op (b_add bx.o.toXO (a_val (e_op (b_add bx.o.toXO (a_var (i := 2) rfl (visBy rfl)) (a_var (i := 3) rfl (visBy rfl))))) (a_val e_int)))) (a_val e_int))) rfl (.inl rfl))
      (ss_cons (st_if (t_val (e_call (l_fn bx.o.toXO (j := 408) (ok_are_enough h) (bx.room.mono (by decide)) rfl bx.tk (as_cons (a_var (i := 0) rfl (visBy rfl)) (as_cons (a_var (i := 1) rfl (visBy rfl)) (as_cons (a_var (i := 4) rfl (visBy rfl)) as_nil)))))) (ss_cons (st_set (i := 2) bx.o.toXO rfl (locBy rfl) (by decide) (l_of (e_var (i := 4) rfl (visBy rfl))) rfl (.inl rfl))
      ss_nil) (ss_cons (st_set (i := 3) bx.o.toXO rfl (locBy rfl) (by decide) (l_op (b_sub bx.o.toXO (a_var (i := 4) rfl (visBy rfl)) (a_val e_int))) rfl (.inl rfl))
      ss_nil))
      ss_nil)))
      (ss_cons (st_retV (i := 2) rfl (visBy rfl))
      ss_nil))))
theorem sc__law_changed_right : FnScope ["pot", "counts", "d", "number", "order", "some", "many", "greater", "at", "fewer", "one", "k", "count"] ["pot", "counts", "d"] (defScope s__law_changed_right) := ⟨rfl, rfl, rfl, by decide +kernel, rfl, by decide +kernel, by decide +kernel⟩
theorem ok__law_changed_right (h : Hx K mg) : Ok P w K mg base 4 "_law_changed_right" ["pot", "counts", "d"] g_law_changed_right_6199 :=
  def_at ir_law_changed_right_6199 h.d__law_changed_right sc__law_changed_right rfl rfl (fun _ _ _ _ _ _ us hl => match us, hl with | [_, _, _], _ => rfl) fun cdv A outer s H E C bx =>
      (ss_cons (st_set (i := 3) bx.o.toXO rfl (locBy rfl) (by decide) (l_fn bx.o.toXO (j := 575) (ok_most_bins h) (bx.room.mono (by decide)) rfl bx.tk (as_cons (a_var (i := 1) rfl (visBy rfl)) (as_cons (a_var (i := 2) rfl (visBy rfl)) as_nil))) rfl (.inl rfl))
      (ss_cons (st_set (i := 4) bx.o.toXO rfl (locBy rfl) (by decide) (l_op (f_list bx.o.toXO rfl h.b_list (a_var (i := 1) rfl (visBy rfl)))) rfl (.inl rfl))
      (ss_cons (st_set (i := 5) bx.o.toXO rfl (locBy rfl) (by decide) (l_op (f_tuple bx.o.toXO rfl h.b_tuple (a_val (e_comp (l_comp bx.o (own := [("k", 11)]) (s_rng1 (by rfl) h.b_range (e_op (f_len bx.o.toXO rfl h.b_len (a_var (i := 1) rfl (visBy rfl))))) (blkOk_by (by rfl)) (by decide) (fun C1 h1 s1 H1 D1 c1 l1 => (g_name (bx.o.blk h1).toXO (i := 11) rfl (locBy rfl))) (fun C1 h1 s1 H1 D1 c1 l1 => ts_nil) (fun C1 h1 s1 H1 D1 c1 l1 => (e_popE (i := 4) rfl (visBy rfl) (e_call (l_fn (bx.o.blk h1).toXO (j := 364) (ok__law_take h) (bx.room.mono (by decide)) rfl Br.takes0 (as_cons (a_var (i := 0) rfl (visBy rfl)) (as_cons (a_val (e_op (f_len (bx.o.blk h1).toXO rfl h.b_len (a_var (i := 4) rfl (visBy rfl))))) as_nil))))))))))) rfl (.inl rfl))
      (ss_cons (st_if (x_ne bx.o.toXO (a_val (e_call (l_fn bx.o.toXO (j := 575) (ok_most_bins h) (bx.room.mono (by decide)) rfl bx.tk (as_cons (a_var (i := 5) rfl (visBy rfl)) (as_cons (a_var (i := 2) rfl (visBy rfl)) as_nil))))) (a_var (i := 3) rfl (visBy rfl))) (ss_cons (st_ret (l_of e_bl))
      ss_nil) ss_nil)
      (ss_cons (st_set (i := 6) bx.o.toXO rfl (locBy rfl) (by decide) (l_op (b_add bx.o.toXO (a_val e_int) (a_val (e_call (l_fn bx.o.toXO (j := 364) (ok__law_take h) (bx.room.mono (by decide)) rfl bx.tk (as_cons (a_var (i := 0) rfl (visBy rfl)) (as_cons (a_val e_int) as_nil))))))) rfl (.inl rfl))
      (ss_cons (st_set (i := 7) bx.o.toXO rfl (locBy rfl) (by decide) (l_fn bx.o.toXO (j := 575) (ok_most_bins h) (bx.room.mono (by decide)) rfl bx.tk (as_cons (a_val (e_op (f_tuple bx.o.toXO rfl h.b_tuple (a_val (e_comp (l_comp bx.o (own := [("count", 12)]) (s_seq bx.o.toXO (e_var (i := 1) rfl (visBy rfl))) (blkOk_by (by rfl)) (by decide) (fun C2 h2 s2 H2 D2 c2 l2 => (g_name (bx.o.blk h2).toXO (i := 12) rfl (locBy rfl))) (fun C2 h2 s2 H2 D2 c2 l2 => ts_nil) (fun C2 h2 s2 H2 D2 c2 l2 => (e_op (b_mul (bx.o.blk h2).toXO (a_var (i := 6) rfl (visBy rfl)) (a_var (i := 12) rfl (visBy rfl))))))))))) (as_cons (a_var (i := 2) rfl (visBy rfl)) as_nil))) rfl (.inl rfl))
      (ss_cons (st_if (t_not (xch bx.o.toXO or_le (or_lt bx.o.toXO.un) (e_op (b_mul bx.o.toXO (a_var (i := 6) rfl (visBy rfl)) (a_var (i := 3) rfl (visBy rfl)))) (e_var (i := 7) rfl (visBy rfl)) (e_op (b_mul bx.o.toXO (a_var (i := 6) rfl (visBy rfl)) (a_val (e_op (b_add bx.o.toXO (a_var (i := 3) rfl (visBy rfl)) (a_val e_int)))))))) (ss_cons (st_ret (l_of e_bl))
      ss_nil) ss_nil)
      (ss_cons (st_set (i := 8) bx.o.toXO rfl (locBy rfl) (by decide) (l_fn bx.o.toXO (j := 364) (ok__law_take h) (bx.room.mono (by decide)) rfl bx.tk (as_cons (a_var (i := 0) rfl (visBy rfl)) (as_cons (a_val (e_op (f_len bx.o.toXO rfl h.b_len (a_var (i := 1) rfl (visBy rfl))))) as_nil))) rfl (.inl rfl))
      (ss_cons (st_if (x_nin bx.o.toXO (a_val (e_op (b_sub bx.o.toXO (a_val (e_call (l_fn bx.o.toXO (j := 575) (ok_most_bins h) (bx.room.mono (by decide)) rfl bx.tk (as_cons (a_val (e_op (b_add bx.o.toXO (a_val (e_op (b_add bx.o.toXO (a_val (e_op (q_sl01 bx.o.toXO (a_var (i := 1) rfl (visBy rfl)) (a_var (i := 8) rfl (visBy rfl))))) (a_val (e_tup (es_cons (e_op (b_add bx.o.toXO (a_val (e_op (o_ix bx.o.toXO (a_var (i := 1) rfl (visBy rfl)) (a_var (i := 8) rfl (visBy rfl))))) (a_val e_int))) es_nil)))))) (a_val (e_op (q_sl10 bx.o.toXO (a_var (i := 1) rfl (visBy rfl)) (a_val (e_op (b_add bx.o.toXO (a_var (i := 8) rfl (visBy rfl)) (a_val e_int)))))))))) (as_cons (a_var (i := 2) rfl (visBy rfl)) as_nil))))) (a_var (i := 3) rfl (visBy rfl))))) (a_val (e_lst (l_lst (es_cons e_int (es_cons e_int es_nil)))))) (ss_cons (st_ret (l_of e_bl))
      ss_nil) ss_nil)
      (ss_cons (st_if (PW.pt (w_and (x_lt bx.o.toXO (a_val (e_op (f_len bx.o.toXO rfl h.b_len (a_var (i := 1) rfl (visBy rfl))))) (a_val e_int)) (w_and1 (x_lt bx.o.toXO (a_val (e_call (l_fn bx.o.toXO (j := 575) (ok_most_bins h) (bx.room.mono (by decide)) rfl bx.tk (as_cons (a_val (e_op (b_add bx.o.toXO (a_var (i := 1) rfl (visBy rfl)) (a_val (e_tup (es_cons (e_call (l_fn bx.o.toXO (j := 364) (ok__law_take h) (bx.room.mono (by decide)) rfl bx.tk (as_cons (a_var (i := 0) rfl (visBy rfl)) (as_cons (a_val e_int) as_nil)))) es_nil)))))) (as_cons (a_var (i := 2) rfl (visBy rfl)) as_nil))))) (a_var (i := 3) rfl (visBy rfl)))))) (ss_cons (st_ret (l_of e_bl))
      ss_nil) ss_nil)
      (ss_cons (st_set (i := 9) bx.o.toXO rfl (locBy rfl) (by decide) (l_comp bx.o (own := [("one", 10)]) (s_rng2 (by rfl) h.b_range e_int e_int) (blkOk_by (by rfl)) (by decide) (fun C3 h3 s3 H3 D3 c3 l3 => (g_name (bx.o.blk h3).toXO (i := 10) rfl (locBy rfl))) (fun C3 h3 s3 H3 D3 c3 l3 => ts_nil) (fun C3 h3 s3 H3 D3 c3 l3 => (e_call (l_fn (bx.o.blk h3).toXO (j := 575) (ok_most_bins h) (bx.room.mono (by decide)) rfl Br.takes0 (as_cons (a_var (i := 1) rfl (visBy rfl)) (as_cons (a_var (i := 10) rfl (visBy rfl)) as_nil)))))) rfl (.inl rfl))
      (ss_cons (st_if (PW.pt (w_or (t_val (e_op (f_any bx.o rfl h.b_any (a_val (e_comp (l_comp bx.o (own := [("k", 11)]) (s_rng1 (by rfl) h.b_range e_int) (blkOk_by (by rfl)) (by decide) (fun C4 h4 s4 H4 D4 c4 l4 => (g_name (bx.o.blk h4).toXO (i := 11) rfl (locBy rfl))) (fun C4 h4 s4 H4 D4 c4 l4 => ts_nil) (fun C4 h4 s4 H4 D4 c4 l4 => (e_op (c_lt (bx.o.blk h4).toXO (a_val (e_op (o_ix (bx.o.blk h4).toXO (a_var (i := 9) rfl (visBy rfl)) (a_var (i := 11) rfl (visBy rfl))))) (a_val (e_op (o_ix (bx.o.blk h4).toXO (a_var (i := 9) rfl (visBy rfl)) (a_val (e_op (b_add (bx.o.blk h4).toXO (a_var (i := 11) rfl (visBy rfl)) (a_val e_int)))))))))))))))) (w_or1 (t_val (e_op (f_any bx.o rfl h.b_any (a_val (e_comp (l_comp bx.o (own := [("one", 10)]) (s_seq bx.o.toXO (e_op (q_sl10 bx.o.toXO (a_var (i := 9) rfl (visBy rfl)) (a_val (e_op (f_len bx.o.toXO rfl h.b_len (a_var (i := 1) rfl (visBy rfl)))))))) (blkOk_by (by rfl)) (by decide) (fun C5 h5 s5 H5 D5 c5 l5 => (g_name (bx.o.blk h5).toXO (i := 10) rfl (locBy rfl))) (fun C5 h5 s5 H5 D5 c5 l5 => ts_nil) (fun C5 h5 s5 H5 D5 c5 l5 => (e_op (c_gt (bx.o.blk h5).toXO (a_var (i := 10) rfl (visBy rfl)) (a_val e_int))))))))))))) (ss_cons (st_ret (l_of e_bl))
      ss_nil) ss_nil)
      (ss_cons (st_ret (l_of (e_and (e_op (c_eq bx.o.toXO (a_val (e_op (o_ix bx.o.toXO (a_var (i := 9) rfl (visBy rfl)) (a_val e_int)))) (a_val (e_op (f_sum bx.o rfl h.b_sum (a_var (i := 1) rfl (visBy rfl))))))) (e_one (e_op (c_eq bx.o.toXO (a_val (e_op (o_ix bx.o.toXO (a_var (i := 9) rfl (visBy rfl)) (a_val e_int)))) (a_val (e_op (f_min2 bx.o rfl h.b_min (a_val (e_op (b_fdiv bx.o.toXO (a_val (e_op (f_sum bx.o rfl h.b_sum (a_var (i := 1) rfl (visBy rfl))))) (a_val e_int)))) (a_val (e_op (b_sub bx.o.toXO (a_val (e_op (f_sum bx.o rfl h.b_sum (a_var (i := 1) rfl (visBy rfl))))) (a_val (e_op (f_maxD bx.o rfl h.b_max (a_var (i := 1) rfl (visBy rfl)))))))))))))))))
      ss_nil)))))))))))))
theorem sc_law : FnScope ["script", "cell", "pot", "d", "counts", "came", "colour", "count"] ["script"] (defScope s_law) := ⟨rfl, rfl, rfl, by decide +kernel, rfl, by decide +kernel, by decide +kernel⟩
theorem ok_law (h : Hx K mg) : Ok P w K mg base 5 "law" ["script"] g_law_b5ac :=
  def_at ir_law_b5ac h.d_law sc_law rfl rfl (fun _ _ _ _ _ _ us hl => match us, hl with | [_], _ => rfl) fun cdv A outer s H E C bx =>
      (ss_cons (st_for bx.o bx.po (s_seq bx.o.toXO (e_op (b_add bx.o.toXO (a_val (e_op (q_sl01 bx.o.toXO (a_var (i := 0) rfl (visBy rfl)) (a_val e_int)))) (a_val (e_lst (l_lst (es_cons e_int es_nil))))))) (g_name bx.o.toXO (i := 1) rfl (locBy rfl)) (by decide) (ss_cons (st_set (i := 2) bx.o.toXO rfl (locBy rfl) (by decide) (l_fn bx.o.toXO (j := 67) (ok__law_deal h) (bx.room.mono (by decide)) rfl bx.tk (as_cons (a_var (i := 1) rfl (visBy rfl)) (as_cons (a_val e_int) as_nil))) rfl (.inl rfl))
      (ss_cons (st_set (i := 3) bx.o.toXO rfl (locBy rfl) (by decide) (l_op (b_add bx.o.toXO (a_val e_int) (a_val (e_call (l_fn bx.o.toXO (j := 364) (ok__law_take h) (bx.room.mono (by decide)) rfl bx.tk (as_cons (a_var (i := 2) rfl (visBy rfl)) (as_cons (a_val e_int) as_nil))))))) rfl (.inl rfl))
      (ss_cons (st_set (i := 4) bx.o.toXO rfl (locBy rfl) (by decide) (l_op (f_tuple bx.o.toXO rfl h.b_tuple (a_val (e_comp (l_comp bx.o (own := [("count", 7)]) (s_seq bx.o.toXO (e_call (l_fn bx.o.toXO (j := 61) (ok__law_counts h) (bx.room.mono (by decide)) rfl bx.tk (as_cons (a_var (i := 2) rfl (visBy rfl)) as_nil)))) (blkOk_by (by rfl)) (by decide) (fun C1 h1 s1 H1 D1 c1 l1 => (g_name (bx.o.blk h1).toXO (i := 7) rfl (locBy rfl))) (fun C1 h1 s1 H1 D1 c1 l1 => ts_nil) (fun C1 h1 s1 H1 D1 c1 l1 => (e_op (f_min2 (bx.o.blk h1) rfl h.b_min (a_var (i := 7) rfl (visBy rfl)) (a_val (e_op (b_pow (bx.o.blk h1).toXO (a_val e_int) (a_val e_int)))))))))))) rfl (.inl rfl))
      (ss_cons (st_if (t_not (t_val (e_call (l_fn bx.o.toXO (j := 53) (ok__law_changed_right h) (bx.room.mono (by decide)) rfl bx.tk (as_cons (a_var (i := 2) rfl (visBy rfl)) (as_cons (a_var (i := 4) rfl (visBy rfl)) (as_cons (a_var (i := 3) rfl (visBy rfl)) as_nil))))))) (ss_cons (st_ret (l_of e_bl))
      ss_nil) ss_nil)
      ss_nil)))))
      (ss_cons (st_set (i := 5) bx.o.toXO rfl (locBy rfl) (by decide) (l_op (b_mul bx.o.toXO (a_val (e_lst (l_lst (es_cons e_int es_nil)))) (a_val e_int))) rfl (.inl rfl))
      (ss_cons (st_for bx.o bx.po (s_seq bx.o.toXO (e_op (q_sl01 bx.o.toXO (a_var (i := 0) rfl (visBy rfl)) (a_val e_int)))) (g_name bx.o.toXO (i := 1) rfl (locBy rfl)) (by decide) (ss_cons (st_set (i := 6) bx.o.toXO rfl (locBy rfl) (by decide) (l_op (b_mod bx.o.toXO (a_val (e_op (b_fdiv bx.o.toXO (a_val (e_op (o_ix bx.o.toXO (a_val (e_call (l_fn bx.o.toXO (j := 67) (ok__law_deal h) (bx.room.mono (by decide)) rfl bx.tk (as_cons (a_var (i := 1) rfl (visBy rfl)) (as_cons (a_val e_int) as_nil))))) (a_val e_int)))) (a_val e_int)))) (a_val e_int))) rfl (.inl rfl))
      (ss_cons (st_setIx (i := 5) bx.o.toXO rfl (visBy rfl) (e_var (i := 6) rfl (visBy rfl)) (e_op (b_add bx.o.toXO (a_val (e_op (o_ix bx.o.toXO (a_var (i := 5) rfl (visBy rfl)) (a_var (i := 6) rfl (visBy rfl))))) (a_val e_int))))
      ss_nil)))
      (ss_cons (st_ret (l_fnT bx.o.toXO (j := 53) (ok__law_changed_right h) (bx.room.mono (by decide)) rfl bx.tk (m_nil (l_fn bx.o.toXO (j := 67) (ok__law_deal h) (bx.room.mono (by decide)) rfl bx.tk (as_cons (a_val (e_op (f_sum bx.o rfl h.b_sum (a_var (i := 0) rfl (visBy rfl))))) (as_cons (a_val e_int) as_nil))) (fun C2 h2 => (as_cons (a_val (e_op (f_tuple (bx.o.to h2).toXO rfl h.b_tuple (a_var (i := 5) rfl (visBy rfl))))) (as_cons (a_val (e_op (b_add (bx.o.to h2).toXO (a_val e_int) (a_val (e_op (b_mod (bx.o.to h2).toXO (a_val (e_op (f_len (bx.o.to h2).toXO rfl h.b_len (a_var (i := 0) rfl (visBy rfl))))) (a_val e_int))))))) as_nil))))))
      ss_nil))))
end
/-! the head -/
def fn : List He.DefD := [⟨("_law_deal", none), "_law_deal", "_law_deal", defArgs s__law_deal, defBody s__law_deal, defScope s__law_deal, [], []⟩,
  ⟨("_law_take", none), "_law_take", "_law_take", defArgs s__law_take, defBody s__law_take, defScope s__law_take, [], []⟩,
  ⟨("used_of", none), "used_of", "used_of", defArgs s_used_of, defBody s_used_of, defScope s_used_of, [], []⟩,
  ⟨("_law_counts", none), "_law_counts", "_law_counts", defArgs s__law_counts, defBody s__law_counts, defScope s__law_counts, [], []⟩,
  ⟨("are_enough", none), "are_enough", "are_enough", defArgs s_are_enough, defBody s_are_enough, defScope s_are_enough, [], []⟩,
  ⟨("most_bins", none), "most_bins", "most_bins", defArgs s_most_bins, defBody s_most_bins, defScope s_most_bins, [], []⟩,
  ⟨("_law_changed_right", none), "_law_changed_right", "_law_changed_right", defArgs s__law_changed_right, defBody s__law_changed_right, defScope s__law_changed_right, [], []⟩,
  ⟨("law", none), "law", "law", defArgs s_law, defBody s_law, defScope s_law, [], []⟩]
def fa : List He.Fa := [.glo "_law_deal", .glo "_law_take", .glo "used_of", .glo "_law_counts", .glo "are_enough", .glo "most_bins", .glo "_law_changed_right", .glo "law", .free "any", .free "divmod", .free "len", .free "list", .free "max", .free "min", .free "range", .free "sum", .free "tuple"]
abbrev R : PySem.W.OpenRow := PySem.W.OpenLaw.row PySem.Challenge.rw_brimyard_k77_whole_counts_changed
abbrev hk : PySem.W.Hook := He.hookD 4 fa fn
def ob (s : PySem.W.SharedT) : He.AlD := He.obsDG 4 fa fn (HandSHeadRun.getT s)
theorem ob_eq (s : PySem.W.SharedT) : ob s = hk.obs s.abs := He.obsDG_eq (HandSHeadRun.getT_eq s)
theorem run (w : World) : HandSHeadRun.RunEq R (PySem.W.view R.prog [9]) hk ob 1600 ["used_of", "are_enough", "most_bins", "_law_deal", "_law_take", "_law_counts", "_law_changed_right"] w := by
  intro os
  kernel_rfl
theorem facts {K : PySem.W.Frag} {h : Heap} {mg : Str → Option Value} (X : K.In h) (G : h.Ns mainGlobals mg) (c : He.SaysD fa fn K) : Hx K mg where
  d__law_deal := dn_of X G c 0 0 rfl rfl
  d__law_take := dn_of X G c 1 1 rfl rfl
  d_used_of := dn_of X G c 2 2 rfl rfl
  d__law_counts := dn_of X G c 3 3 rfl rfl
  d_are_enough := dn_of X G c 4 4 rfl rfl
  d_most_bins := dn_of X G c 5 5 rfl rfl
  d__law_changed_right := dn_of X G c 6 6 rfl rfl
  d_law := dn_of X G c 7 7 rfl rfl
  b_any := fr_of X G c 8 rfl
  b_divmod := fr_of X G c 9 rfl
  b_len := fr_of X G c 10 rfl
  b_list := fr_of X G c 11 rfl
  b_max := fr_of X G c 12 rfl
  b_min := fr_of X G c 13 rfl
  b_range := fr_of X G c 14 rfl
  b_sum := fr_of X G c 15 rfl
  b_tuple := fr_of X G c 16 rfl
end Lk77
open PySem PySem.W PySem.Calls PyProof.Rows
theorem PySem.Challenge.cw_brimyard_k77_whole_counts_changed_holds : PySem.Challenge.rw_brimyard_k77_whole_counts_changed.Holds := by
  w_on; o_law
  refine HandSHeadRun.head_any (r := OpenLaw.row PySem.Challenge.rw_brimyard_k77_whole_counts_changed) (q := view (OpenLaw.row PySem.Challenge.rw_brimyard_k77_whole_counts_changed).prog [9]) (H := Lk77.hk) (ob := Lk77.ob) (M := 1600) (loose := ["used_of", "are_enough", "most_bins", "_law_deal", "_law_take", "_law_counts", "_law_changed_right"]) (d := HandSHeadRun.topDef (OpenLaw.row PySem.Challenge.rw_brimyard_k77_whole_counts_changed).prog 9) (kwd := []) Lk77.ob_eq
    (by kernel_rfl) (fun s => by kernel_rfl) Lk77.run (by kernel_rfl) (by kernel_rfl) (by kernel_rfl) (by rfl) (by first | assumption | decide +kernel) (by decide +kernel) ⟨rfl, rfl, rfl, rfl, rfl, by decide +kernel⟩ ?hw ?hc
  case hw => w_witness2
  case hc =>
    refine Br.walk_P (l := PySem.Challenge.rw_brimyard_k77_whole_counts_changed) (n := 63) (k := 5) (x := "script") (g := Cm.g_law_b5ac) rfl (by decide) (by kernel_rfl) ⟨rfl, by decide, by decide⟩ Cm.law_b5ac_pure ?F
    intro w mg h Y G
    obtain ⟨K, KX, c⟩ := Y
    have hx := Lk77.facts KX G c
    refine ⟨K, KX, fun base _ _ => ?_⟩
    have e : (HandSHeadRun.topDef (OpenLaw.row PySem.Challenge.rw_brimyard_k77_whole_counts_changed).prog 9).name = ("law" : PySem.Str) := by kernel_rfl
    rw [e]
    exact Lk77.ok_law hx
