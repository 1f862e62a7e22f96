import PyProof.Rows.All
import HandS.Iter
import KE.GoesMore
import PyProof.EnumMake
import PyProof.Draws
import KE.DataMinMax
import Wide.All
import OpenK.AllK
import Wide.FinOn
import HandS.ForMost
import HandS.ForSpec
import HandS.HeadHook1
import KE.KeyNested
import HandS.IsInst
import HandS.Text
import KE.SortKeyed
import HandS.DictEq
import PyProof.EqKinds
import HandS.TupAny
import HandS.TupLe
import HandS.SortInts
import HandS.Wide
import HandS.TupMul
import HandS.More
import HandS.Deep
import HandS.NoneIn
import HandS.CallSlots
import HandS.Zip
import HandS.Rev
import HandS.Small
import HandS.ExcOwn
import HandS.Style
import HandS.Defaults
import HandS.Ends
import HandS.HeadEnd
import HandS.Words
import HandS.WordsExc
import HandS.WideBits
import HandS.Head0
import HandS.Head1
import HandS.Head2
import HandS.HeadHook2
import HandS.EndBits
import HandS.List
import HandS.Call
import HandS.SetFor
import KE.KDictPairs
import KE.DataFind
import KE.SortData
import HandS.ExcIs
import HandS.TryOnly
import HandS.HotCalls
import HandS.Flt
import HandS.Conv
import HandS.ListItems
import KE.KDictSum
import PyProof.ReprRoads
import HandS.SortKw
import HandS.ExcValue
import KE.KDictKeyed
import HandS.TupSets
import HandS.StrMore
import HandS.Steps
import KE.KIntText
import KE.KStateDown
import Lean
import PySem.Challenge.RW_brimyard_k05_refusals_apart
set_option Elab.async false
set_option linter.all false
set_option maxRecDepth 100000
set_option maxHeartbeats 2000000
/-! BrE0: enumerate of a tuple; max of two data. -/
namespace Br
section
open PySem PySem.Spec PySem.W PyProof.Rows
variable {prog : Program} {w : World} {A : Around} {E : Value → Shared → Prop} {s : Shared}
end
end Br
/-! BrA: plain values, how they lie in the heap, the state of a frame. -/
namespace Br
open PySem PySem.Spec PyProof.Rows L2

/-- plain values -/
inductive PV where
  | non | bl (b : Bool) | int (i : Int) | str (x : Str) | ty (n : String) | exc (c : Str)
  | tup (l : List PV) | xt (l : List PV) | lst (l : List PV) | dK (ks : List Key) (l : List PV) | dT (ks : List (List Key)) (l : List PV)
  | obj (c : Str) (ns : List Str) (l : List PV) | gt (l : List PV) | dX (ks : List PV) (l : List PV)
  deriving Inhabited

/-- .. as any tuple -/
def PV.dn : PV → PV
  | .xt l => .tup l
  | .gt l => .tup l
  | p => p
/-- a list that is read: tracked, known, or the script among the module's objects -/
def SqE (K : PySem.W.Frag) (H : Hp) (a : Addr) (xs : List V) : Prop := Rd H a (.lst xs) ∨ ∃ (its : Array Value) (n : Nat), K.lookup a = some { cls := .type "list", data := .seq its n } ∧ its.size ≤ sizeLine ∧ Vals xs its.toList
theorem SqE.sql {K : PySem.W.Frag} {H : Hp} {a : Addr} {xs : List V} (h : SqE K H a xs) : SqL K H a xs := by
  rcases h with h | ⟨its, n, h, hz, r⟩
  · exact .inl h
  · exact .inr ⟨_, its, n, h, rfl, rfl, rfl, hz, r⟩
/-- an exception object of the own class c -/
def ExcR (K : PySem.W.Frag) (F : Hp) (c : Str) (v : V) : Prop := ∃ a oe vs, v = .ref a ∧ F a = some (.ext fun h => h.get? a = some oe) ∧ Zc (.ref (He.ga K c)) none oe ∧ oe.data = .fields vs

mutual
/-- a value as a key: a whole number, or a tuple of such keys -/
def PV.nk : PV → Option NestedKey
  | .int i => some (.num i)
  | .tup l => (PV.nks l).map .tup
  | .xt l => (PV.nks l).map .tup
  | _ => none
def PV.nks : List PV → Option (List NestedKey)
  | [] => some []
  | p :: l => match PV.nk p, PV.nks l with
    | some k, some r => some (k :: r)
    | _, _ => none
end
def PV.kq (p : PV) : NestedKey := p.nk.getD .none
/-- a tuple that a dict may have as a key -/
def PV.kok : PV → Bool
  | .tup l => (PV.nks l).isSome && decide ((PV.kq (.tup l)).depth ≤ 8)
  | .xt l => (PV.nks l).isSome && decide ((PV.kq (.xt l)).depth ≤ 8)
  | _ => false
mutual
/-- only whole numbers and tuples -/
def ikN : NestedKey → Bool
  | .num _ => true
  | .tup l => ikNs l
  | _ => false
def ikNs : List NestedKey → Bool
  | [] => true
  | k :: l => ikN k && ikNs l
end
abbrev KX : List (NestedKey × Addr × V) → List (NestedKey × Addr × Value) → Prop := Paired fun p q => p.1 = q.1 ∧ p.2.1 = q.2.1 ∧ RelV p.2.2 q.2.2
/-- a dict whose keys are tuples that are tracked or known -/
def dxP (a : Addr) (kvs : List (NestedKey × Addr × V)) (h : Heap) : Prop := kvs.length ≤ sizeLine ∧ (a == sysModules) = false ∧ (∀ p ∈ kvs, ikN p.1 = true) ∧
  ∃ xs : List (NestedKey × Addr × Value), KX kvs xs ∧ ∃ o es ep, h.get? a = some o ∧ o.ExactDict ∧ o.data = .dict es ep ∧ (∀ (P : Program) (w : World), es.toList = xs.map (entryOfKey (nestedKind P w))) ∧ (xs.map (·.1)).Nodup
def dxO (a : Addr) (kvs : List (NestedKey × Addr × V)) : HO := .ext (dxP a kvs)
mutual
def Rep (K : PySem.W.Frag) (F : Hp) : PV → V → Prop
  | .non, v => v = .non
  | .bl b, v => v = .bl b
  | .int i, v => v = .int i
  | .str x, v => v = .str x
  | .ty n, v => v = .ty n
  | .exc c, v => ExcR K F c v
  | .tup l, v => ∃ a xs, v = .ref a ∧ F a = some (.tup xs) ∧ Reps K F l xs
  | .xt l, v => ∃ a xs o, v = .ref a ∧ F a = some (.frz o (.tup xs)) ∧ o.dict = none ∧ Reps K F l xs
  | .lst l, v => ∃ a xs, v = .ref a ∧ SqE K F a xs ∧ Reps K F l xs
  | .dK ks l, v => ∃ a xs, v = .ref a ∧ Rd F a (.dK (ks.zip xs)) ∧ ks.length = xs.length ∧ ks.Nodup ∧ Reps K F l xs
  | .dT ks l, v => ∃ a xs, v = .ref a ∧ Rd F a (.dT (ks.zip xs)) ∧ ks.length = xs.length ∧ ks.Nodup ∧ Reps K F l xs
  | .obj c ns l, v => ∃ a dx vs, v = .ref a ∧ F a = some (.ins (He.ga K c) dx (ns.zip vs)) ∧ ns.length = vs.length ∧ ns.Nodup ∧ Reps K F l vs
  | .gt l, v => ∃ a xs, v = .ref a ∧ SqT K F a xs ∧ Reps K F l xs
  | .dX ks l, v => ∃ (a : Addr) (bs : List Addr) (xs : List V), v = .ref a ∧ Rd F a (dxO a ((ks.map PV.kq).zip (bs.zip xs))) ∧ ks.length = bs.length ∧ ks.length = xs.length ∧ ks.all PV.kok = true ∧ (ks.map PV.kq).Nodup ∧ Reps K F ks (bs.map V.ref) ∧ Reps K F l xs
def Reps (K : PySem.W.Frag) (F : Hp) : List PV → List V → Prop
  | [], xs => xs = []
  | p :: l, xs => ∃ x r, xs = x :: r ∧ Rep K F p x ∧ Reps K F l r
end

section
variable {K : PySem.W.Frag} {F F' H H' : Hp}
theorem Same.sqt {a : Addr} {xs : List V} (e : Same F F') (h : SqT K F a xs) : SqT K F' a xs := by
  rcases h with (h | ⟨o, h⟩) | h
  · exact .inl (.inl (e _ _ h))
  · exact .inl (.inr ⟨o, e _ _ h⟩)
  · exact .inr h
theorem Same.sqe {a : Addr} {xs : List V} (e : Same F F') (h : SqE K F a xs) : SqE K F' a xs := by
  rcases h with (h | ⟨o, h⟩) | h
  · exact .inl (.inl (e _ _ h))
  · exact .inl (.inr ⟨o, e _ _ h⟩)
  · exact .inr h
theorem Rdm {a : Addr} {u : HO} (e : Same F F') (h : Rd F a u) : Rd F' a u := by
  rcases h with h | ⟨o, h⟩
  · exact .inl (e _ _ h)
  · exact .inr ⟨o, e _ _ h⟩
mutual
theorem Rep.mono (e : Same F F') : ∀ {p : PV} {v : V}, Rep K F p v → Rep K F' p v
  | .non, _, h => h
  | .bl _, _, h => h
  | .int _, _, h => h
  | .str _, _, h => h
  | .ty _, _, h => h
  | .exc _, _, h => by
    obtain ⟨a, oe, vs, h1, h2, h3⟩ := h
    exact ⟨a, oe, vs, h1, e _ _ h2, h3⟩
  | .tup l, _, h => by
    obtain ⟨a, xs, h1, h2, h3⟩ := h
    exact ⟨a, xs, h1, e _ _ h2, Reps.mono e h3⟩
  | .xt l, _, h => by
    obtain ⟨a, xs, o, h1, h2, h3, h4⟩ := h
    exact ⟨a, xs, o, h1, e _ _ h2, h3, Reps.mono e h4⟩
  | .lst l, _, h => by
    obtain ⟨a, xs, h1, h2, h3⟩ := h
    exact ⟨a, xs, h1, Same.sqe e h2, Reps.mono e h3⟩
  | .dK ks l, _, h => by
    obtain ⟨a, xs, h1, h2, h3, h4, h5⟩ := h
    exact ⟨a, xs, h1, Rdm e h2, h3, h4, Reps.mono e h5⟩
  | .dT ks l, _, h => by
    obtain ⟨a, xs, h1, h2, h3, h4, h5⟩ := h
    exact ⟨a, xs, h1, Rdm e h2, h3, h4, Reps.mono e h5⟩
  | .obj c ns l, _, h => by
    obtain ⟨a, dx, vs, h1, h2, h3, h4, h5⟩ := h
    exact ⟨a, dx, vs, h1, e _ _ h2, h3, h4, Reps.mono e h5⟩
  | .gt l, _, h => by
    obtain ⟨a, xs, h1, h2, h3⟩ := h
    exact ⟨a, xs, h1, Same.sqt e h2, Reps.mono e h3⟩
  | .dX ks l, _, h => by
    obtain ⟨a, bs, xs, h1, h2, h3, h4, h5, h6, h7, h8⟩ := h
    exact ⟨a, bs, xs, h1, Rdm e h2, h3, h4, h5, h6, Reps.mono e h7, Reps.mono e h8⟩
theorem Reps.mono (e : Same F F') : ∀ {l : List PV} {xs : List V}, Reps K F l xs → Reps K F' l xs
  | [], _, h => h
  | p :: l, _, h => by
    obtain ⟨x, r, h1, h2, h3⟩ := h
    exact ⟨x, r, h1, Rep.mono e h2, Reps.mono e h3⟩
end
/-- .. any tuple, at the top -/
def RepA (K : PySem.W.Frag) (F : Hp) (p : PV) (v : V) : Prop := match p with
  | .tup l => ∃ a xs, v = .ref a ∧ SqT K F a xs ∧ Reps K F l xs
  | p => Rep K F p v
theorem Rep.toA {p : PV} {v : V} (h : Rep K F p v) : RepA K F p v := by
  cases p with
  | tup l => obtain ⟨a, xs, h1, h2, h3⟩ := h; exact ⟨a, xs, h1, .inl (.inl h2), h3⟩
  | _ => exact h
theorem RepA.mono (e : Same F F') {p : PV} {v : V} (h : RepA K F p v) : RepA K F' p v := by
  cases p with
  | tup l => obtain ⟨a, xs, h1, h2, h3⟩ := h; exact ⟨a, xs, h1, Same.sqt e h2, h3.mono e⟩
  | _ => exact Rep.mono e h
/-- a tuple whose object is known, as any tuple -/
theorem Rep.dn {p : PV} {v : V} (h : Rep K F p v) : RepA K F (PV.dn p) v := by
  cases p with
  | xt l => obtain ⟨a, xs, o, h1, h2, h3, h4⟩ := h; exact ⟨a, xs, h1, .inl (.inr ⟨o, h2⟩), h4⟩
  | gt l => exact h
  | tup l => obtain ⟨a, xs, h1, h2, h3⟩ := h; exact ⟨a, xs, h1, .inl (.inl h2), h3⟩
  | _ => exact h
theorem Reps.nil : Reps K F [] [] := rfl
theorem Reps.cons {p : PV} {x : V} {l : List PV} {r : List V} (h : Rep K F p x) (t : Reps K F l r) : Reps K F (p :: l) (x :: r) := ⟨x, r, rfl, h, t⟩
theorem Reps.length : ∀ {l : List PV} {xs : List V}, Reps K F l xs → l.length = xs.length
  | [], _, h => by
    have h1 : _ = [] := h
    rw [h1]
    rfl
  | p :: l, _, h => by
    obtain ⟨x, r, rfl, h2, h3⟩ := h
    simp [h3.length]
theorem Reps.append : ∀ {l m : List PV} {xs ys : List V}, Reps K F l xs → Reps K F m ys → Reps K F (l ++ m) (xs ++ ys)
  | [], _, _, _, h, k => by
    have h1 : _ = [] := h
    subst h1
    exact k
  | p :: l, _, _, _, h, k => by
    obtain ⟨x, r, rfl, h2, h3⟩ := h
    exact .cons h2 (h3.append k)
theorem Reps.get : ∀ {l : List PV} {xs : List V} {i : Nat} {p : PV}, Reps K F l xs → l[i]? = some p → ∃ x, xs[i]? = some x ∧ Rep K F p x
  | [], _, _, _, _, e => by simp at e
  | p :: l, _, 0, q, h, e => by
    obtain ⟨x, r, rfl, h2, h3⟩ := h
    simp at e
    subst e
    exact ⟨x, rfl, h2⟩
  | p :: l, _, i + 1, q, h, e => by
    obtain ⟨x, r, rfl, h2, h3⟩ := h
    exact h3.get (i := i) (by simpa using e)
theorem Reps.take : ∀ {l : List PV} {xs : List V} (n : Nat), Reps K F l xs → Reps K F (l.take n) (xs.take n)
  | _, _, 0, _ => by simp [Reps.nil]
  | [], _, n + 1, h => by
    have h1 : _ = [] := h
    subst h1
    exact h
  | p :: l, _, n + 1, h => by
    obtain ⟨x, r, rfl, h2, h3⟩ := h
    exact .cons h2 (h3.take n)
theorem Reps.drop : ∀ {l : List PV} {xs : List V} (n : Nat), Reps K F l xs → Reps K F (l.drop n) (xs.drop n)
  | _, _, 0, h => h
  | [], _, n + 1, h => by
    have h1 : _ = [] := h
    subst h1
    exact h
  | p :: l, _, n + 1, h => by
    obtain ⟨x, r, rfl, h2, h3⟩ := h
    exact h3.drop n
theorem Reps.set {p : PV} {x : V} (hp : Rep K F p x) : ∀ {l : List PV} {xs : List V} (n : Nat), Reps K F l xs → Reps K F (l.set n p) (xs.set n x)
  | [], _, _, h => by
    have h1 : _ = [] := h
    subst h1
    exact h
  | q :: l, _, 0, h => by
    obtain ⟨y, r, rfl, h2, h3⟩ := h
    exact .cons hp h3
  | q :: l, _, n + 1, h => by
    obtain ⟨y, r, rfl, h2, h3⟩ := h
    exact .cons h2 (h3.set hp n)
theorem Reps.reverse : ∀ {l : List PV} {xs : List V}, Reps K F l xs → Reps K F l.reverse xs.reverse
  | [], _, h => by
    have h1 : _ = [] := h
    subst h1
    exact h
  | p :: l, _, h => by
    obtain ⟨x, r, rfl, h2, h3⟩ := h
    rw [List.reverse_cons, List.reverse_cons]
    exact h3.reverse.append (.cons h2 .nil)
theorem Reps.eraseIdx : ∀ {l : List PV} {xs : List V} (n : Nat), Reps K F l xs → Reps K F (l.eraseIdx n) (xs.eraseIdx n)
  | [], _, n, h => by
    have h1 : _ = [] := h
    subst h1
    exact h
  | p :: l, _, 0, h => by
    obtain ⟨x, r, rfl, h2, h3⟩ := h
    exact h3
  | p :: l, _, n + 1, h => by
    obtain ⟨x, r, rfl, h2, h3⟩ := h
    exact .cons h2 (h3.eraseIdx n)
theorem Reps.dropLast {l : List PV} {xs : List V} (h : Reps K F l xs) : Reps K F l.dropLast xs.dropLast := by
  rw [List.dropLast_eq_take, List.dropLast_eq_take, h.length]
  exact h.take _
theorem Reps.ints : ∀ {ns : List Int} {xs : List V}, Reps K F (ns.map PV.int) xs → xs = ns.map V.int
  | [], _, h => h
  | n :: ns, _, h => by
    obtain ⟨x, r, rfl, h2, h3⟩ := h
    have h4 : x = .int n := h2
    rw [h4, Reps.ints h3]
    rfl
end

/-! ### values that a frame's names hold -/
/-- fro: never written again; own: a list or a dict that no one else holds; ins: an instance that no one else holds -/
inductive LV where
  | fro (p : PV) | own (p : PV) | ins (c : Str) (ns : List Str) (ls : List LV)
  deriving Inhabited
abbrev Env := List (Option LV)

def OwnAt (K : PySem.W.Frag) (F H : Hp) (a : Addr) : PV → Prop
  | .lst l => ∃ xs, H a = some (.lst xs) ∧ Reps K F l xs
  | .dK ks l => ∃ xs, H a = some (.dK (ks.zip xs)) ∧ ks.length = xs.length ∧ ks.Nodup ∧ Reps K F l xs
  | .dT ks l => ∃ xs, H a = some (.dT (ks.zip xs)) ∧ ks.length = xs.length ∧ ks.Nodup ∧ Reps K F l xs
  | .dX ks l => ∃ (bs : List Addr) (xs : List V), H a = some (dxO a ((ks.map PV.kq).zip (bs.zip xs))) ∧ ks.length = bs.length ∧ ks.length = xs.length ∧ ks.all PV.kok = true ∧ (ks.map PV.kq).Nodup ∧ Reps K F ks (bs.map V.ref) ∧ Reps K F l xs
  | _ => False
theorem OwnAt.some {K : PySem.W.Frag} {F H : Hp} {a : Addr} {p : PV} (h : OwnAt K F H a p) : ∃ o, H a = .some o := by
  cases p with
  | lst l => obtain ⟨xs, h, _⟩ := h; exact ⟨_, h⟩
  | dK ks l => obtain ⟨xs, h, _⟩ := h; exact ⟨_, h⟩
  | dT ks l => obtain ⟨xs, h, _⟩ := h; exact ⟨_, h⟩
  | dX ks l => obtain ⟨bs, xs, h, _⟩ := h; exact ⟨_, h⟩
  | _ => exact False.elim h
theorem OwnAt.frame {K : PySem.W.Frag} {F H F' H' : Hp} {a : Addr} {p : PV} (e : Same F F') (k : H' a = H a) (h : OwnAt K F H a p) : OwnAt K F' H' a p := by
  cases p with
  | lst l => obtain ⟨xs, h, h2⟩ := h; exact ⟨xs, k.trans h, h2.mono e⟩
  | dK ks l => obtain ⟨xs, h, h2, h3, h4⟩ := h; exact ⟨xs, k.trans h, h2, h3, h4.mono e⟩
  | dT ks l => obtain ⟨xs, h, h2, h3, h4⟩ := h; exact ⟨xs, k.trans h, h2, h3, h4.mono e⟩
  | dX ks l => obtain ⟨bs, xs, h, h2, h3, h4, h5, h6, h7⟩ := h; exact ⟨bs, xs, k.trans h, h2, h3, h4, h5, h6.mono e, h7.mono e⟩
  | _ => exact False.elim h
/-- what lies at a, frozen, is the value -/
theorem OwnAt.rep {K : PySem.W.Frag} {F H : Hp} {a : Addr} {p : PV} (h : OwnAt K F H a p) (e : Same F H) : Rep K H p (.ref a) := by
  cases p with
  | lst l => obtain ⟨xs, h, h2⟩ := h; exact ⟨a, xs, rfl, .inl (.inl h), h2.mono e⟩
  | dK ks l => obtain ⟨xs, h, h2, h3, h4⟩ := h; exact ⟨a, xs, rfl, .inl h, h2, h3, h4.mono e⟩
  | dT ks l => obtain ⟨xs, h, h2, h3, h4⟩ := h; exact ⟨a, xs, rfl, .inl h, h2, h3, h4.mono e⟩
  | dX ks l => obtain ⟨bs, xs, h, h2, h3, h4, h5, h6, h7⟩ := h; exact ⟨a, bs, xs, rfl, .inl h, h2, h3, h4, h5, h6.mono e, h7.mono e⟩
  | _ => exact False.elim h
/-- .. also over a smaller frozen heap that has the object -/
theorem OwnAt.repF {K : PySem.W.Frag} {F H : Hp} {a : Addr} {p : PV} {o : HO} (h : OwnAt K F H a p) (ha : H a = .some o) (n : F a = none) : Rep K (upd F a o) p (.ref a) := by
  have e : Same F (upd F a o) := fun b u q => by rw [upd_ne (ne_of_none q n)]; exact q
  cases p with
  | lst l => obtain ⟨xs, h, h2⟩ := h; rw [ha] at h; cases h; exact ⟨a, xs, rfl, .inl (.inl upd_same), h2.mono e⟩
  | dK ks l => obtain ⟨xs, h, h2, h3, h4⟩ := h; rw [ha] at h; cases h; exact ⟨a, xs, rfl, .inl upd_same, h2, h3, h4.mono e⟩
  | dT ks l => obtain ⟨xs, h, h2, h3, h4⟩ := h; rw [ha] at h; cases h; exact ⟨a, xs, rfl, .inl upd_same, h2, h3, h4.mono e⟩
  | dX ks l => obtain ⟨bs, xs, h, h2, h3, h4, h5, h6, h7⟩ := h; rw [ha] at h; cases h; exact ⟨a, bs, xs, rfl, .inl upd_same, h2, h3, h4, h5, h6.mono e, h7.mono e⟩
  | _ => exact False.elim h

mutual
/-- how a name's value lies in the heap, and the addresses that it owns -/
def RepL (K : PySem.W.Frag) (F H : Hp) : LV → V → List Addr → Prop
  | .fro p, v, fp => Rep K F p v ∧ fp = []
  | .own p, v, fp => ∃ a, v = .ref a ∧ OwnAt K F H a p ∧ fp = [a]
  | .ins c ns ls, v, fp => ∃ a dx vs fr, v = .ref a ∧ H a = some (.ins (He.ga K c) dx (ns.zip vs)) ∧ ns.length = vs.length ∧ ns.Nodup ∧ RepLs K F H ls vs fr ∧ fp = a :: fr
def RepLs (K : PySem.W.Frag) (F H : Hp) : List LV → List V → List Addr → Prop
  | [], vs, fp => vs = [] ∧ fp = []
  | l :: ls, vs, fp => ∃ v r f1 f2, vs = v :: r ∧ RepL K F H l v f1 ∧ RepLs K F H ls r f2 ∧ fp = f1 ++ f2
end
section
variable {K : PySem.W.Frag} {F F' H H' : Hp}
mutual
theorem RepL.frame (e : Same F F') : ∀ {l : LV} {v : V} {fp : List Addr}, RepL K F H l v fp → (∀ a ∈ fp, H' a = H a) → RepL K F' H' l v fp
  | .fro p, _, _, h, _ => ⟨h.1.mono e, h.2⟩
  | .own p, _, _, h, k => by
    obtain ⟨a, h1, h2, rfl⟩ := h
    exact ⟨a, h1, h2.frame e (k a (by simp)), rfl⟩
  | .ins c ns ls, _, _, h, k => by
    obtain ⟨a, dx, vs, fr, h1, h2, h3, h4, h5, rfl⟩ := h
    exact ⟨a, dx, vs, fr, h1, (k a (by simp)).trans h2, h3, h4, RepLs.frame e h5 fun b hb => k b (by simp [hb]), rfl⟩
theorem RepLs.frame (e : Same F F') : ∀ {ls : List LV} {vs : List V} {fp : List Addr}, RepLs K F H ls vs fp → (∀ a ∈ fp, H' a = H a) → RepLs K F' H' ls vs fp
  | [], _, _, h, _ => h
  | l :: ls, _, _, h, k => by
    obtain ⟨v, r, f1, f2, h1, h2, h3, rfl⟩ := h
    exact ⟨v, r, f1, f2, h1, RepL.frame e h2 fun a ha => k a (by simp [ha]), RepLs.frame e h3 fun a ha => k a (by simp [ha]), rfl⟩
end
mutual
theorem RepL.there : ∀ {l : LV} {v : V} {fp : List Addr}, RepL K F H l v fp → ∀ a ∈ fp, ∃ o, H a = some o
  | .fro p, _, _, h, a, ha => by rw [h.2] at ha; cases ha
  | .own p, _, _, h, a, ha => by
    obtain ⟨b, h1, h2, rfl⟩ := h
    obtain rfl : a = b := by simpa using ha
    exact h2.some
  | .ins c ns ls, _, _, h, a, ha => by
    obtain ⟨b, dx, vs, fr, h1, h2, h3, h4, h5, rfl⟩ := h
    rcases List.mem_cons.mp ha with rfl | ha
    · exact ⟨_, h2⟩
    · exact RepLs.there h5 a ha
theorem RepLs.there : ∀ {ls : List LV} {vs : List V} {fp : List Addr}, RepLs K F H ls vs fp → ∀ a ∈ fp, ∃ o, H a = some o
  | [], _, _, h, a, ha => by rw [h.2] at ha; cases ha
  | l :: ls, _, _, h, a, ha => by
    obtain ⟨v, r, f1, f2, h1, h2, h3, rfl⟩ := h
    rcases List.mem_append.mp ha with ha | ha
    · exact RepL.there h2 a ha
    · exact RepLs.there h3 a ha
end
theorem RepLs.length : ∀ {ls : List LV} {vs : List V} {fp : List Addr}, RepLs K F H ls vs fp → ls.length = vs.length
  | [], _, _, h => by rw [h.1]; rfl
  | l :: ls, _, _, h => by
    obtain ⟨v, r, f1, f2, rfl, h2, h3, rfl⟩ := h
    simp [h3.length]
end

/-- what a def's run started from: K, the heap, what was frozen, what the arguments own -/
structure Cb where
  K : PySem.W.Frag
  H0 : Hp
  F0 : Hp
  A0 : List Addr
/-- may be written -/
def Cb.O (C : Cb) (a : Addr) : Prop := a ∈ C.A0 ∨ C.H0 a = none ∨ ∃ xs, C.H0 a = some (.tup xs)

/-- THE STATE of a frame -/
structure SR (C : Cb) (F : Hp) (ρ : Env) (σ : L2.St) (H : Hp) : Prop where
  le : Same F H
  f0 : Same C.F0 F
  keep : ∀ a o, C.H0 a = some o → a ∉ C.A0 → H a = some o
  fo : ∀ a, F a ≠ none → C.F0 a ≠ none ∨ C.O a
  len : ρ.length = σ.length
  own : ∃ fp : Nat → List Addr, (∀ i l, ρ[i]? = some (some l) → ∃ v, σ[i]? = some (some v) ∧ RepL C.K F H l v (fp i) ∧ (fp i).Nodup ∧ ∀ a ∈ fp i, F a = none ∧ C.O a) ∧
    ∀ i j l m, i ≠ j → ρ[i]? = some (some l) → ρ[j]? = some (some m) → ∀ a ∈ fp i, a ∉ fp j

section
variable {C : Cb} {F F' H H' : Hp} {ρ : Env} {σ : L2.St}
theorem SR.fresh (s : SR C F ρ σ H) {p : Addr} (n : H p = none) : C.O p := by
  by_cases hp : p ∈ C.A0
  · exact .inl hp
  · refine .inr (.inl ?_)
    cases e : C.H0 p with
    | none => rfl
    | some o => rw [s.keep p o e hp] at n; cases n
/-- a tuple's object -/
theorem SR.oTup (s : SR C F ρ σ H) {p : Addr} {xs : List V} (n : H p = some (.tup xs)) : C.O p := by
  by_cases hp : p ∈ C.A0
  · exact .inl hp
  · refine .inr ?_
    cases e : C.H0 p with
    | none => exact .inl rfl
    | some o =>
      have := s.keep p o e hp
      rw [n] at this
      cases this
      exact .inr ⟨xs, rfl⟩
/-- .. is nothing of our own -/
theorem RepL.noTup {K : PySem.W.Frag} {F H : Hp} : ∀ {l : LV} {v : V} {fp : List Addr}, RepL K F H l v fp → ∀ a ∈ fp, ∀ xs, H a ≠ some (.tup xs) := by
  intro l
  refine LV.rec (motive_1 := fun l => ∀ {v : V} {fp : List Addr}, RepL K F H l v fp → ∀ a ∈ fp, ∀ xs, H a ≠ some (.tup xs)) (motive_2 := fun ls => ∀ {vs : List V} {fp : List Addr}, RepLs K F H ls vs fp → ∀ a ∈ fp, ∀ xs, H a ≠ some (.tup xs)) ?_ ?_ ?_ ?_ ?_ l
  · intro p v fp h a ha; rw [h.2] at ha; cases ha
  · intro p v fp h a ha xs e
    obtain ⟨b, h1, h2, rfl⟩ := h
    obtain rfl : a = b := by simpa using ha
    cases p with
    | lst l => obtain ⟨ys, h, _⟩ := h2; rw [e] at h; cases h
    | dK ks l => obtain ⟨ys, h, _⟩ := h2; rw [e] at h; cases h
    | dT ks l => obtain ⟨ys, h, _⟩ := h2; rw [e] at h; cases h
    | dX ks l => obtain ⟨bs, ys, h, _⟩ := h2; rw [e] at h; cases h
    | _ => exact False.elim h2
  · intro c ns ls ih v fp h a ha xs e
    obtain ⟨b, dx, vs, fr, h1, h2, h3, h4, h5, rfl⟩ := h
    rcases List.mem_cons.mp ha with rfl | ha
    · rw [e] at h2; cases h2
    · exact ih h5 a ha xs e
  · intro vs fp h a ha; rw [h.2] at ha; cases ha
  · intro l ls i1 i2 vs fp h a ha xs e
    obtain ⟨v, r, f1, f2, h1, h2, h3, rfl⟩ := h
    rcases List.mem_append.mp ha with ha | ha
    · exact i1 h2 a ha xs e
    · exact i2 h3 a ha xs e
theorem SR.fnone (s : SR C F ρ σ H) {p : Addr} (n : H p = none) : F p = none := s.le.free n
theorem same_updF (n : F p = none) : Same F (upd F p o) := fun b u q => by rw [upd_ne (ne_of_none q n)]; exact q
/-- a change of the heap that keeps what the names own -/
theorem SR.grow (s : SR C F ρ σ H) (e : Same F F') (le : Same F' H') (keep : ∀ a o, C.H0 a = some o → a ∉ C.A0 → H' a = some o) (fo : ∀ a, F' a ≠ none → F a ≠ none ∨ (C.O a ∧ H a = none))
    (k : ∀ a o, H a = some o → H' a = some o) : SR C F' ρ σ H' := by
  obtain ⟨fp, h1, h2⟩ := s.own
  refine ⟨le, s.f0.trans e, keep, fun a n => ?_, s.len, fp, fun i l hl => ?_, h2⟩
  · rcases fo a n with q | q
    · exact s.fo a q
    · exact .inr q.1
  · obtain ⟨v, hv, r, nd, q⟩ := h1 i l hl
    refine ⟨v, hv, r.frame e fun a ha => ?_, nd, fun a ha => ⟨?_, (q a ha).2⟩⟩
    · obtain ⟨o, ho⟩ := r.there a ha
      rw [k a o ho, ho]
    · cases z : F' a with
      | none => rfl
      | some o =>
        obtain ⟨o', ho⟩ := r.there a ha
        rcases fo a (by rw [z]; exact fun w => nomatch w) with w | w
        · exact absurd (q a ha).1 w
        · rw [ho] at w; cases w.2
/-- a new object, frozen at once -/
theorem SR.alloc (s : SR C F ρ σ H) {p : Addr} (n : H p = none) (o : HO) : SR C (upd F p o) ρ σ (upd H p o) := by
  have e : Same F (upd F p o) := same_updF (s.fnone n)
  refine s.grow e (fun b u q => ?_) (fun a u h1 h2 => ?_) (fun a q => ?_) (fun a u q => ?_)
  · by_cases hb : b = p
    · subst hb; rw [upd_same] at q ⊢; exact q
    · rw [upd_ne hb] at q ⊢; exact s.le b u q
  · have := s.keep a u h1 h2
    rw [upd_ne (ne_of_none this n)]; exact this
  · by_cases ha : a = p
    · subst ha; exact .inr ⟨s.fresh n, n⟩
    · rw [upd_ne ha] at q; exact .inl q
  · rw [upd_ne (ne_of_none q n)]; exact q
/-- a new object, not frozen -/
theorem SR.allocH (s : SR C F ρ σ H) {p : Addr} (n : H p = none) (o : HO) : SR C F ρ σ (upd H p o) := by
  refine s.grow (Same.refl F) (fun b u q => ?_) (fun a u h1 h2 => ?_) (fun a q => .inl q) (fun a u q => ?_)
  · rw [upd_ne (ne_of_none (s.le b u q) n)]; exact s.le b u q
  · have := s.keep a u h1 h2
    rw [upd_ne (ne_of_none this n)]; exact this
  · rw [upd_ne (ne_of_none q n)]; exact q
theorem SR.get (s : SR C F ρ σ H) {i : Nat} {l : LV} (h : ρ[i]? = some (some l)) : ∃ v fp, σ[i]? = some (some v) ∧ RepL C.K F H l v fp := by
  obtain ⟨fp, h1, h2⟩ := s.own
  obtain ⟨v, hv, r, _⟩ := h1 i l h
  exact ⟨v, _, hv, r⟩
theorem SR.fro (s : SR C F ρ σ H) {i : Nat} {p : PV} (h : ρ[i]? = some (some (.fro p))) : ∃ v, σ[i]? = some (some v) ∧ Rep C.K F p v := by
  obtain ⟨v, fp, hv, r⟩ := s.get h
  exact ⟨v, hv, r.1⟩
theorem SR.ownAt (s : SR C F ρ σ H) {i : Nat} {p : PV} (h : ρ[i]? = some (some (.own p))) : ∃ a, σ[i]? = some (some (.ref a)) ∧ OwnAt C.K F H a p ∧ F a = none ∧ C.O a := by
  obtain ⟨fp, h1, h2⟩ := s.own
  obtain ⟨v, hv, ⟨a, rfl, oa, e⟩, _, q⟩ := h1 i _ h
  have := q a (by rw [e]; simp)
  exact ⟨a, hv, oa, this.1, this.2⟩
theorem set_get {α : Type} {l : List α} {i j : Nat} {x y : α} (h : (l.set i x)[j]? = some y) : (i = j ∧ x = y ∧ i < l.length) ∨ (i ≠ j ∧ l[j]? = some y) := by
  by_cases e : i = j
  · subst e
    by_cases hi : i < l.length
    · rw [List.getElem?_set_self hi] at h; exact .inl ⟨rfl, Option.some.inj h, hi⟩
    · rw [List.getElem?_eq_none (by simpa using hi)] at h; cases h
  · rw [List.getElem?_set_ne e] at h; exact .inr ⟨e, h⟩
/-- a slot forgotten (in the state of the values) -/
theorem SR.clear (s : SR C F ρ σ H) (i : Nat) (x : Option V) : SR C F (ρ.set i none) (σ.set i x) H := by
  obtain ⟨fp, h1, h2⟩ := s.own
  refine ⟨s.le, s.f0, s.keep, s.fo, by simp [s.len], fp, fun j l hl => ?_, fun j k l m hjk hl hm => ?_⟩
  · rcases set_get hl with ⟨_, q, _⟩ | ⟨q, hl⟩
    · cases q
    · rw [List.getElem?_set_ne q]
      exact h1 j l hl
  · rcases set_get hl with ⟨_, q, _⟩ | ⟨_, hl⟩
    · cases q
    rcases set_get hm with ⟨_, q, _⟩ | ⟨_, hm⟩
    · cases q
    exact h2 j k l m hjk hl hm
/-- one more value at hand, frozen -/
theorem SR.push (s : SR C F ρ σ H) {p : PV} {v : V} (r : Rep C.K F p v) : SR C F (some (.fro p) :: ρ) (some v :: σ) H := by
  obtain ⟨fp, h1, h2⟩ := s.own
  refine ⟨s.le, s.f0, s.keep, s.fo, by simp [s.len], fun i => match i with | 0 => [] | i + 1 => fp i, fun j l hl => ?_, fun j k l m hjk hl hm => ?_⟩
  · cases j with
    | zero =>
      simp only [List.getElem?_cons_zero, Option.some.injEq] at hl
      subst hl
      exact ⟨v, rfl, ⟨r, rfl⟩, List.nodup_nil, fun a ha => nomatch ha⟩
    | succ j => exact h1 j l (by simpa using hl)
  · cases j with
    | zero => exact fun a ha => nomatch ha
    | succ j =>
      cases k with
      | zero => exact fun a ha hb => nomatch hb
      | succ k => exact h2 j k l m (fun e => hjk (by rw [e])) (by simpa using hl) (by simpa using hm)
/-- .. a new object of our own -/
theorem SR.pushNew (s : SR C F ρ σ H) {a : Addr} {o : HO} (n : H a = none) {p : PV} (r : OwnAt C.K F (upd H a o) a p) : SR C F (some (.own p) :: ρ) (some (.ref a) :: σ) (upd H a o) := by
  have s' := s.allocH n o
  obtain ⟨fp, h1, h2⟩ := s.own
  have no : ∀ j l, ρ[j]? = some (some l) → a ∉ fp j := fun j l hl ha => by
    obtain ⟨v, _, r, _⟩ := h1 j l hl
    obtain ⟨u, hu⟩ := r.there a ha
    rw [n] at hu; cases hu
  refine ⟨s'.le, s.f0, s'.keep, s.fo, by simp [s.len], fun i => match i with | 0 => [a] | i + 1 => fp i, fun j l hl => ?_, fun j k l m hjk hl hm => ?_⟩
  · cases j with
    | zero =>
      simp only [List.getElem?_cons_zero, Option.some.injEq] at hl
      subst hl
      refine ⟨.ref a, rfl, ⟨a, rfl, r, rfl⟩, by simp, fun b hb => ?_⟩
      obtain rfl : b = a := by simpa using hb
      exact ⟨s.fnone n, s.fresh n⟩
    | succ j =>
      obtain ⟨v, hv, r, nd, q⟩ := h1 j l (by simpa using hl)
      refine ⟨v, by simpa using hv, r.frame (Same.refl _) fun b hb => ?_, nd, q⟩
      exact upd_ne fun e => no j l (by simpa using hl) (e ▸ hb)
  · cases j with
    | zero =>
      cases k with
      | zero => exact absurd rfl hjk
      | succ k =>
        intro b hb hb2
        obtain rfl : b = a := by simpa using hb
        exact no k m (by simpa using hm) hb2
    | succ j =>
      cases k with
      | zero =>
        intro b hb hb2
        obtain rfl : b = a := by simpa using hb2
        exact no j l (by simpa using hl) hb
      | succ k => exact h2 j k l m (fun e => hjk (by rw [e])) (by simpa using hl) (by simpa using hm)
theorem SR.pop {x : Option LV} {y : Option V} (s : SR C F (x :: ρ) (y :: σ) H) : SR C F ρ σ H := by
  obtain ⟨fp, h1, h2⟩ := s.own
  exact ⟨s.le, s.f0, s.keep, s.fo, by have := s.len; simpa using this, fun i => fp (i + 1), fun j l hl => h1 (j + 1) l (by simpa using hl), fun j k l m hjk hl hm => h2 (j + 1) (k + 1) l m (by omega) (by simpa using hl) (by simpa using hm)⟩
/-- the value at hand goes to a slot -/
theorem SR.put {l : LV} {v : V} (s : SR C F (some l :: ρ) (some v :: σ) H) (i : Nat) : SR C F (ρ.set i (some l)) (σ.set i (some v)) H := by
  obtain ⟨fp, h1, h2⟩ := s.own
  have hlen : ρ.length = σ.length := by have := s.len; simpa using this
  refine ⟨s.le, s.f0, s.keep, s.fo, by simp [hlen], fun j => if j = i then fp 0 else fp (j + 1), fun j m hm => ?_, fun j k m m' hjk hm hm' => ?_⟩
  · rcases set_get hm with ⟨rfl, q, hi⟩ | ⟨q, hm⟩
    · cases q
      (try dsimp only); rw [if_pos rfl, List.getElem?_set_self (by omega)]
      exact h1 0 l rfl
    · (try dsimp only); rw [if_neg (Ne.symm q), List.getElem?_set_ne q]
      exact h1 (j + 1) m (by simpa using hm)
  · rcases set_get hm with ⟨rfl, q, hi⟩ | ⟨q, hm⟩
    · cases q
      rcases set_get hm' with ⟨e, _, _⟩ | ⟨q', hm'⟩
      · exact absurd e hjk
      · (try dsimp only); rw [if_pos rfl, if_neg (Ne.symm q')]
        exact h2 0 (k + 1) l m' (by omega) rfl (by simpa using hm')
    · (try dsimp only); rw [if_neg (Ne.symm q)]
      rcases set_get hm' with ⟨rfl, q', _⟩ | ⟨q', hm'⟩
      · cases q'
        (try dsimp only); rw [if_pos rfl]
        exact h2 (j + 1) 0 m l (by omega) (by simpa using hm) rfl
      · (try dsimp only); rw [if_neg (Ne.symm q')]
        exact h2 (j + 1) (k + 1) m m' (by omega) (by simpa using hm) (by simpa using hm')
theorem SR.setFro (s : SR C F ρ σ H) {p : PV} {v : V} (r : Rep C.K F p v) (i : Nat) : SR C F (ρ.set i (some (.fro p))) (σ.set i (some v)) H := (s.push r).put i
/-- what a name owns is frozen -/
theorem SR.freeze (s : SR C F ρ σ H) {i : Nat} {p : PV} (h : ρ[i]? = some (some (.own p))) : ∃ a F', σ[i]? = some (some (.ref a)) ∧ Same F F' ∧ SR C F' (ρ.set i (some (.fro p))) σ H ∧ Rep C.K F' p (.ref a) := by
  obtain ⟨fp, h1, h2⟩ := s.own
  obtain ⟨v, hv, ⟨a, rfl, oa, e⟩, nd, q⟩ := h1 i _ h
  obtain ⟨o, ho⟩ := oa.some
  obtain ⟨na, oA⟩ := q a (by rw [e]; simp)
  have sm : Same F (upd F a o) := same_updF na
  have rp := oa.repF ho na
  refine ⟨a, upd F a o, hv, sm, ⟨fun b u z => ?_, s.f0.trans sm, s.keep, fun b z => ?_, by simp [s.len], fun j => if j = i then [] else fp j, fun j l hl => ?_, fun j k l m hjk hl hm => ?_⟩, rp⟩
  · by_cases hb : b = a
    · subst hb; rw [upd_same] at z; rw [ho]; exact z
    · rw [upd_ne hb] at z; exact s.le b u z
  · by_cases hb : b = a
    · subst hb; exact .inr oA
    · rw [upd_ne hb] at z; exact s.fo b z
  · rcases set_get hl with ⟨rfl, z, hi⟩ | ⟨z, hl⟩
    · cases z
      (try dsimp only); rw [if_pos rfl]
      exact ⟨.ref a, hv, ⟨rp, rfl⟩, List.nodup_nil, fun b hb => nomatch hb⟩
    · (try dsimp only); rw [if_neg (Ne.symm z)]
      obtain ⟨v, hv, r, nd, q⟩ := h1 j l hl
      refine ⟨v, hv, r.frame sm fun _ _ => rfl, nd, fun b hb => ⟨?_, (q b hb).2⟩⟩
      rw [upd_ne fun w => h2 j i l _ (Ne.symm z) hl h b hb (by rw [e, w]; simp)]
      exact (q b hb).1
  · rcases set_get hl with ⟨rfl, z, hi⟩ | ⟨z, hl⟩
    · (try dsimp only); rw [if_pos rfl]; exact fun b hb => nomatch hb
    · (try dsimp only); rw [if_neg (Ne.symm z)]
      rcases set_get hm with ⟨rfl, z', hi⟩ | ⟨z', hm⟩
      · (try dsimp only); rw [if_pos rfl]; exact fun b _ hb => nomatch hb
      · (try dsimp only); rw [if_neg (Ne.symm z')]; exact h2 j k l m hjk hl hm
/-- our own: handed to us or new -/
theorem SR.oOwn (s : SR C F ρ σ H) {l : LV} {v : V} {fp : List Addr} {a : Addr} (r : RepL C.K F H l v fp) (ha : a ∈ fp) (o : C.O a) : a ∈ C.A0 ∨ C.H0 a = none := by
  rcases o with o | o | ⟨xs, o⟩
  · exact .inl o
  · exact .inr o
  · by_cases hA : a ∈ C.A0
    · exact .inl hA
    · exact absurd (s.keep a _ o hA) (r.noTup a ha xs)
/-- a tuple that is tracked is frozen -/
theorem SR.freezeT (s : SR C F ρ σ H) {b : Addr} {xs : List V} (hb : H b = some (.tup xs)) : ∃ F', Same F F' ∧ SR C F' ρ σ H ∧ F' b = some (.tup xs) := by
  by_cases n : F b = none
  case neg =>
    refine ⟨F, Same.refl F, s, ?_⟩
    cases z : F b with
    | none => exact absurd z n
    | some o =>
      have := s.le b o z
      rw [hb] at this
      exact this.symm
  have sm : Same F (upd F b (.tup xs)) := same_updF n
  obtain ⟨fp, h1, h2⟩ := s.own
  refine ⟨_, sm, ⟨fun c u z => ?_, s.f0.trans sm, s.keep, fun c z => ?_, s.len, fp, fun i l hl => ?_, h2⟩, upd_same⟩
  · by_cases hc : c = b
    · subst hc; rw [upd_same] at z; rw [hb]; exact z
    · rw [upd_ne hc] at z; exact s.le c u z
  · by_cases hc : c = b
    · subst hc; exact .inr (s.oTup hb)
    · rw [upd_ne hc] at z; exact s.fo c z
  · obtain ⟨v, hv, r, nd, q⟩ := h1 i l hl
    refine ⟨v, hv, r.frame sm fun _ _ => rfl, nd, fun c hc => ⟨?_, (q c hc).2⟩⟩
    rw [upd_ne]
    · exact (q c hc).1
    · intro w
      subst w
      exact r.noTup c hc xs hb
/-- what a name owns is written -/
theorem SR.write (s : SR C F ρ σ H) {i : Nat} {p p' : PV} {a : Addr} {o : HO} (h : ρ[i]? = some (some (.own p))) (hσ : σ[i]? = some (some (.ref a))) (r : OwnAt C.K F (upd H a o) a p') : SR C F (ρ.set i (some (.own p'))) σ (upd H a o) := by
  obtain ⟨fp, h1, h2⟩ := s.own
  obtain ⟨v, hv, ⟨a', rfl, oa, e⟩, nd, q⟩ := h1 i _ h
  rw [hσ] at hv; cases hv
  obtain ⟨na, oA⟩ := q a (by rw [e]; simp)
  refine ⟨fun b u z => ?_, s.f0, fun b u z hb => ?_, s.fo, by simp [s.len], fp, fun j l hl => ?_, fun j k l m hjk hl hm => ?_⟩
  · rw [upd_ne (ne_of_none z na)]; exact s.le b u z
  · have nb : b ≠ a := fun w => by
      subst w
      rcases oA with w | w | ⟨ys, w⟩
      · exact hb w
      · rw [z] at w; cases w
      · exact RepL.noTup (l := .own p) (v := .ref b) (fp := fp i) ⟨b, rfl, oa, e⟩ b (by rw [e]; simp) ys (s.keep b _ w hb)
    rw [upd_ne nb]; exact s.keep b u z hb
  · rcases set_get hl with ⟨rfl, z, hi⟩ | ⟨z, hl⟩
    · cases z
      exact ⟨.ref a, hσ, ⟨a, rfl, r, e⟩, nd, q⟩
    · obtain ⟨v, hv, r', nd', q'⟩ := h1 j l hl
      refine ⟨v, hv, r'.frame (Same.refl _) fun b hb => ?_, nd', q'⟩
      exact upd_ne fun w => h2 j i l _ (Ne.symm z) hl h b hb (by rw [e, w]; simp)
  · rcases set_get hl with ⟨rfl, z, hi⟩ | ⟨z, hl⟩
    · rcases set_get hm with ⟨z', _, _⟩ | ⟨z', hm⟩
      · exact absurd z' hjk
      · exact h2 i k _ m hjk h hm
    · rcases set_get hm with ⟨rfl, z', hi⟩ | ⟨z', hm⟩
      · exact h2 j i l _ hjk hl h
      · exact h2 j k l m hjk hl hm
/-- the value at hand is frozen, or a new object of our own: frozen now -/
theorem SR.popFro {p : PV} {v : V} (s : SR C F (some (.fro p) :: ρ) (some v :: σ) H) : SR C F ρ σ H ∧ Rep C.K F p v := by
  refine ⟨s.pop, ?_⟩
  obtain ⟨v', hv, r⟩ := s.fro (i := 0) rfl
  cases hv
  exact r
theorem SR.popOwn {p : PV} {v : V} (s : SR C F (some (.own p) :: ρ) (some v :: σ) H) : ∃ F', Same F F' ∧ SR C F' ρ σ H ∧ Rep C.K F' p v := by
  obtain ⟨a, F', hv, sm, s', r⟩ := s.freeze (i := 0) rfl
  cases hv
  exact ⟨F', sm, s'.pop, r⟩
end
end Br
/-! BrB: a small language, and what its terms compute over plain values. -/
namespace Br
open PySem PySem.Spec PyProof.Rows L2

inductive Op where
  | add | sub | mul | fdiv | mod | pow | neg
  | eq | ne | lt | le | gt | ge | isN | isNN | isB (b : Bool) | isNB (b : Bool) | inn | nin
  | len | sum | abs | int1 | str1 | tuple1 | list1 | dict1 | sorted | allL | anyL | min2 | max2 | min3 | max3 | minL | maxL
  | idx | slc (lo hi : Bool) | rev | dget | isTy (ts : List String) | values | dmod
  | lcnt | tcnt | lidx | bits | sortedD | minD | maxD | max2D | strD | valsL | valsS | minV (z : Int) | minT (z : Int) | sset | ssetT | lset | join | split | strip2 | intS | idxS | inS | dictT | addX | isEx (kn cs : List Str) | tupleX | idxT | dgetT | innT | ninT | sortT | slcX | lsetX | revX | mkX (c : Str)
  deriving DecidableEq

/-- what a loop's or a comprehension's target is -/
inductive Tg where
  | one (i : Nat) | at (i : Nat) (k : Int) | atV (i j : Nat) | tup (ts : List Tg)

mutual
inductive Ex where
  | var (i : Nat) | cst (c : PV) | app (o : Op) (as : List Arg) | mth (o : Op) (a : Arg) (as : List Arg) | tup (es : List Ex) | lst (es : List Ex) | dnew
  | call (j : Nat) (as : List Arg) | and (a b : Ex) | or (a b : Ex) | not (a : Ex) | ite (c : Tst) (a b : Ex)
  | chain (o1 o2 : Op) (a b c : Ex) | chain3 (o1 o2 o3 : Op) (a b c d : Ex) | sl2 (a : Arg) (lo hi : Ex) | comp (s : Src) (t : Tg) (vs : List Nat) (c : List Tst) (e : Ex)
  | popE (i : Nat) (e : Ex) | popL (i : Nat) | dispV (i j : Nat) | callT (j : Nat) (as : List Arg) (k : Nat) (cs bs : List Arg) | callN (j : Nat) (as : List Arg) (t : Bool) (bs : List Arg) | xtup (es : List Ex) | dnewT | dnewX
  | sel (j1 j2 i : Nat) (as : List Arg)
  | mcall (j i : Nat) (c : Str) (ns : List Str) (as : List Arg) | make (j : Nat) (c : Str) (as : List Arg)
  | fld (i : Nat) (c : Str) (ns : List Str) (k : Nat) | fop (o : Op) (i : Nat) (c : Str) (ns : List Str) (k : Nat)
  | compK (i : Nat) (t : Tg) (vs : List Nat) (c : List Tst) (e : Ex) | compO (i : Nat) (t : Tg) (vs : List Nat) (c : List Tst) (e : Ex) | mvv (i : Nat) | disp1 (a b : Ex) | popD (i : Nat) (e : Ex)
  | frz (e : Ex) | ofld (i : Nat) (c : Str) (ns : List Str) (k : Nat) | fix (i : Nat) (c : Str) (ns : List Str) (k : Nat) (ix : Nat ⊕ Int) | mcallR (j i : Nat) (c : Str) (ns : List Str) (as : List Arg)
/-- an argument: a name's own object, or a value -/
inductive Arg where
  | ref (i : Nat) | val (e : Ex)
inductive Tst where
  | and (a b : Tst) | or (a b : Tst) | not (a : Tst) | e (x : Ex)
inductive Src where
  | seq (e : Ex) | seqS (e : Ex) | lock (i : Nat) (it : Bool) | rng1 (a : Ex) | rng2 (a b : Ex) | enum (e : Ex) | zip (a b : Ex) | rev (e : Ex)
end

inductive St where
  | set (i : Nat) (e : Ex) | unp (t : Tg) (e : Ex) | par (is : List Nat) (es : List Ex)
  | setIx (i : Nat) (k e : Ex) | app (i : Nat) (e : Ex) | ext (i : Nat) (e : Ex) | popA (i : Nat) (e : Ex) | insA (i : Nat) (k e : Ex)
  | ex (e : Ex) | ret (e : Ex) | retV (i : Nat) | retN
  | ite (c : Tst) (a b : List St) | whl (c : Tst) (b : List St) | for (s : Src) (t : Tg) (b : List St)
  | fset (i : Nat) (c : Str) (ns : List Str) (k : Nat) (e : Ex) | fnew (i : Nat) (c : Str) (ns : List Str) (f : Str) (e : Ex)
  | fsetIx (i : Nat) (c : Str) (ns : List Str) (k : Nat) (ix : Nat ⊕ Int) (e : Ex) | fappE (i : Nat) (c : Str) (ns : List Str) (k : Nat) (e : Ex) | fappV (i : Nat) (c : Str) (ns : List Str) (k j : Nat) | fappT (i : Nat) (c : Str) (ns : List Str) (k g : Nat)
  | brk | cont | pass | raise (c : Str) | tryx (b : List St) (x : Str) (i : Option Nat) (kn : List Str) (s : List St)

/-! ### outcomes -/
inductive ER (α : Type) where
  | ok (a : α) (ρ : Env) | ex (c : Str) (ρ : Env) | st
inductive CR where
  | ok (r : LV) (as : List LV) | ex (c : Str) (as : List LV) | st
inductive SO where
  | nx (ρ : Env) | rt (l : LV) (ρ : Env) | bk (ρ : Env) | ct (ρ : Env) | ex (c : Str) (ρ : Env) | st
/-- an argument: a value, or a name whose object is handed on -/
inductive AV where
  | val (p : PV) | ref (i : Nat)

def ER.bind {α β : Type} (r : ER α) (f : α → Env → ER β) : ER β := match r with
  | .ok a ρ => f a ρ
  | .ex c ρ => .ex c ρ
  | .st => .st
@[simp] theorem ER.bind_ok {α β : Type} (a : α) (ρ : Env) (f : α → Env → ER β) : (ER.ok a ρ).bind f = f a ρ := rfl
@[simp] theorem ER.bind_ex {α β : Type} (c : Str) (ρ : Env) (f : α → Env → ER β) : (ER.ex c ρ : ER α).bind f = .ex c ρ := rfl
@[simp] theorem ER.bind_st {α β : Type} (f : α → Env → ER β) : (ER.st : ER α).bind f = .st := rfl
def ER.of {α : Type} (o : Option α) (ρ : Env) : ER α := match o with
  | some a => .ok a ρ
  | none => .st
@[simp] theorem ER.of_some {α : Type} (a : α) (ρ : Env) : ER.of (some a) ρ = .ok a ρ := rfl
@[simp] theorem ER.of_none {α : Type} (ρ : Env) : (ER.of none ρ : ER α) = .st := rfl

def LV.pv : LV → Option PV
  | .fro p => some p
  | .own p => some p
  | .ins _ _ _ => none
def AV.pv (ρ : Env) : AV → Option PV
  | .val p => some p
  | .ref i => match ρ[i]? with
    | some (some l) => l.pv
    | _ => none
def AV.pvs (ρ : Env) : List AV → Option (List PV)
  | [] => some []
  | a :: as => match a.pv ρ, AV.pvs ρ as with
    | some p, some ps => some (p :: ps)
    | _, _ => none
def AV.lv (ρ : Env) : AV → Option LV
  | .val p => some (.fro p)
  | .ref i => match ρ[i]? with
    | some (some l) => some l
    | _ => none
def AV.lvs (ρ : Env) : List AV → Option (List LV)
  | [] => some []
  | a :: as => match a.lv ρ, AV.lvs ρ as with
    | some p, some ps => some (p :: ps)
    | _, _ => none
def AV.refs : List AV → List Nat
  | [] => []
  | .val _ :: as => AV.refs as
  | .ref i :: as => i :: AV.refs as
/-- the handed-on names' objects behind a call -/
def AV.back (ρ : Env) : List AV → Env → Env
  | .ref i :: as, some l :: ms => AV.back (ρ.set i (some l)) as ms
  | _ :: as, _ :: ms => AV.back ρ as ms
  | _, _ => ρ
def LV.isFro : LV → Bool
  | .fro _ => true
  | _ => false
/-- what was handed on, behind the call -/
def maskL : List LV → List LV → Env
  | l :: ls, l' :: ls' => (if l.isFro = true then none else some l') :: maskL ls ls'
  | _, _ => []

/-! ### data as the model compares it -/
mutual
def PV.toD : PV → PyData
  | .bl b => .bool b
  | .int i => .int i
  | .str x => .str x
  | .tup l => .tuple (PV.toDs l)
  | .xt l => .tuple (PV.toDs l)
  | .gt l => .tuple (PV.toDs l)
  | .lst l => .list (PV.toDs l)
  | _ => .none
def PV.toDs : List PV → List PyData
  | [] => []
  | p :: l => p.toD :: PV.toDs l
end
/-- data of depth below n -/
def PV.isD : Nat → PV → Bool
  | _, .non => true
  | _, .bl _ => true
  | _, .int _ => true
  | _, .str x => PyData.strOk x
  | n + 1, .tup l => l.all (PV.isD n)
  | n + 1, .xt l => l.all (PV.isD n)
  | n + 1, .gt l => l.all (PV.isD n)
  | n + 1, .lst l => l.all (PV.isD n)
  | _, _ => false
/-- .. all of whose tuples are any tuples -/
def PV.isT : Nat → PV → Bool
  | _, .non => true
  | _, .bl _ => true
  | _, .int _ => true
  | _, .str x => PyData.strOk x
  | n + 1, .tup l => l.all (PV.isT n)
  | n + 1, .lst l => l.all (PV.isT n)
  | _, _ => false
def eqP (a b : PV) : Bool := PyData.eqv a.toD b.toD
mutual
/-- < of ints, texts, tuples; none where it is not known -/
def ltP : PV → PV → Option Bool
  | .int a, .int b => some (decide (a < b))
  | .tup l, .tup m => ltPs l m
  | _, _ => none
def ltPs : List PV → List PV → Option Bool
  | [], [] => some false
  | [], _ :: _ => some true
  | _ :: _, [] => some false
  | x :: xs, y :: ys => match ltPs xs ys with
    | some r => if eqP x y = true then some r else ltP x y
    | none => none
end
def LIM : Nat := 1000000
def intsOf : List PV → Option (List Int)
  | [] => some []
  | .int i :: l => (intsOf l).map (i :: ·)
  | _ => none
def blsOf : List PV → Option (List Bool)
  | [] => some []
  | .bl i :: l => (blsOf l).map (i :: ·)
  | _ => none
@[simp] theorem intsOf_map (ns : List Int) : intsOf (ns.map PV.int) = some ns := by
  induction ns with
  | nil => rfl
  | cons n ns ih => simp [intsOf, ih]
@[simp] theorem blsOf_map (ns : List Bool) : blsOf (ns.map PV.bl) = some ns := by
  induction ns with
  | nil => rfl
  | cons n ns ih => simp [blsOf, ih]
def mulOk (i j : Int) : Prop := i.natAbs < 2 ^ 64 ∨ j.natAbs < 2 ^ 64 ∨ i.natAbs.log2 + j.natAbs.log2 < 4000000
instance (i j : Int) : Decidable (mulOk i j) := by unfold mulOk; infer_instance
def tyName : PV → Option String
  | .non => some "NoneType"
  | .bl _ => some "bool"
  | .int _ => some "int"
  | .str _ => some "str"
  | .tup _ => some "tuple"
  | .xt _ => some "tuple"
  | .gt _ => some "tuple"
  | .lst _ => some "list"
  | .dK _ _ => some "dict"
  | _ => none
def isTyP (c : String) (p : PV) : Option Bool := match tyName p with
  | some t => kitB t c
  | none => none
def isTys : List String → PV → Option Bool
  | [], _ => some false
  | t :: ts, p => match isTyP t p with
    | some true => some true
    | some false => isTys ts p
    | none => none
def cutP (l : List PV) (lo hi : Option Int) : List PV := (l.drop (HT.sIx l.length 0 lo)).take (HT.sIx l.length l.length hi - HT.sIx l.length 0 lo)
def insI (x : Int) : List Int → List Int
  | [] => [x]
  | y :: ys => if x ≤ y then x :: y :: ys else y :: insI x ys
def sortI : List Int → List Int
  | [] => []
  | x :: xs => insI x (sortI xs)
def keyP : PV → Option Key
  | .int i => some (.inl i)
  | .str x => some (.inr x)
  | _ => none
def keysT : List PV → Option (List Key)
  | [] => some []
  | p :: l => match keyP p, keysT l with
    | some k, some r => some (k :: r)
    | _, _ => none
def findK {κ : Type} [DecidableEq κ] (k : κ) : List κ → List PV → Option PV
  | c :: cs, v :: vs => if k = c then some v else findK k cs vs
  | _, _ => none
def hasK {κ : Type} [DecidableEq κ] (k : κ) (ks : List κ) : Bool := ks.any fun c => decide (c = k)
def putKs {κ : Type} [DecidableEq κ] (k : κ) : List κ → List κ
  | [] => [k]
  | c :: cs => if k = c then c :: cs else c :: putKs k cs
def putVs {κ : Type} [DecidableEq κ] (k : κ) (p : PV) : List κ → List PV → List PV
  | c :: cs, v :: vs => if k = c then p :: vs else v :: putVs k p cs vs
  | _, _ => [p]

def addP : List PV → Option PV
  | [.int a, .int b] => some (.int (a + b))
  | [.str a, .str b] => if a.length + b.length ≤ LIM then some (.str (a ++ b)) else none
  | [.lst a, .lst b] => if a.length + b.length ≤ LIM then some (.lst (a ++ b)) else none
  | [.tup a, .tup b] => if a.length + b.length ≤ LIM then some (.tup (a ++ b)) else none
  | [.xt a, .tup b] => if a ≠ [] ∧ b ≠ [] ∧ a.length + b.length ≤ LIM then some (.tup (a ++ b)) else none
  | [.tup a, .xt b] => if a ≠ [] ∧ b ≠ [] ∧ a.length + b.length ≤ LIM then some (.tup (a ++ b)) else none
  | [.xt a, .xt b] => if a ≠ [] ∧ b ≠ [] ∧ a.length + b.length ≤ LIM then some (.tup (a ++ b)) else none
  | _ => none
/-- .. of two tuples whose objects are known: so is the sum's -/
def addXP : List PV → Option PV
  | [.xt a, .xt b] => if a ≠ [] ∧ a.length + b.length ≤ LIM then some (.xt (a ++ b)) else none
  | _ => none
def subP : List PV → Option PV
  | [.int a, .int b] => some (.int (a - b))
  | _ => none
def mulP : List PV → Option PV
  | [.int a, .int b] => if mulOk a b then some (.int (a * b)) else none
  | [.str a, .int b] => if 2 ≤ b ∧ b ≤ 1000 ∧ 1 ≤ a.length ∧ a.length ≤ 1000 then some (.str ⟨(List.replicate b.toNat a.cps.toList).flatten.toArray⟩) else none
  | [.lst l, .int b] => if 0 ≤ b ∧ b ≤ LIM ∧ (l.length = 1 ∨ l.length * b.toNat ≤ LIM) then some (.lst (List.replicate b.toNat l).flatten) else none
  | [.tup l, .int b] => if 1 ≤ b ∧ b ≤ 1000 ∧ l ≠ [] ∧ l.length ≤ 1000 then some (.tup (List.replicate b.toNat l).flatten) else if 1 ≤ b ∧ b ≤ 1000000 ∧ l.length = 1 then some (.tup (List.replicate b.toNat l).flatten) else if b = 0 ∧ l ≠ [] then some (.tup []) else none
  | _ => none
def fdivP : List PV → Option PV
  | [.int a, .int b] => if 0 < b ∧ b.natAbs.log2 < 9000 then some (.int (a / b)) else if b < 0 ∧ b.natAbs.log2 < 9000 then some (.int (a.fdiv b)) else none
  | _ => none
def modP : List PV → Option PV
  | [.int a, .int b] => if 0 < b then some (.int (a % b)) else none
  | _ => none
def powP : List PV → Option PV
  | [.int a, .int b] => if 0 ≤ b ∧ b ≤ 1000000 ∧ a.natAbs < 2 ^ 64 then some (.int (a ^ b.toNat)) else none
  | _ => none
def negP : List PV → Option PV
  | [.int a] => some (.int (-a))
  | _ => none
/-- the number at a key -/
def iAt {κ : Type} [DecidableEq κ] (k : κ) : List κ → List Int → Option Int
  | c :: cs, v :: vs => if k = c then some v else iAt k cs vs
  | _, _ => none
/-- whether two dicts of ints are equal -/
def eqIK (ks : List Key) (ns : List Int) (qs : List Key) (ms : List Int) : Bool := decide (ks.length = qs.length) && ks.all fun k => decide (iAt k ks ns = iAt k qs ms)
def eqKP : PV → PV → Option PV
  | .dK ks vs, .dK qs ws => (intsOf vs).bind fun ns => (intsOf ws).map fun ms => .bl (eqIK ks ns qs ms)
  | .non, .dK _ _ => some (.bl false)
  | _, _ => none
def eqOP : List PV → Option PV
  | [.str a, .str b] => some (.bl (decide (a = b)))
  | [a, b] => if a.isD 60 = true ∧ b.isD 60 = true then some (.bl (eqP a b)) else eqKP a b
  | _ => none
def neOP : List PV → Option PV
  | [.str a, .str b] => some (.bl (!decide (a = b)))
  | [a, b] => if a.isD 60 = true ∧ b.isD 60 = true then some (.bl (!eqP a b)) else none
  | _ => none
def ltOP : List PV → Option PV
  | [.int a, .int b] => some (.bl (decide (a < b)))
  | [.tup a, .tup b] => if (PV.tup a).isD 60 = true ∧ (PV.tup b).isD 60 = true then (ltPs a b).map .bl else none
  | _ => none
/-- <= of rows of ints -/
def leI : List Int → List Int → Bool
  | [], _ => true
  | _ :: _, [] => false
  | x :: xs, y :: ys => if x = y then leI xs ys else decide (x ≤ y)
def leTP (a b : List PV) : Option PV := (intsOf a).bind fun ns => (intsOf b).map fun ms => .bl (leI ns ms)
def leOP : List PV → Option PV
  | [.int a, .int b] => some (.bl (decide (a ≤ b)))
  | [.tup a, .tup b] => leTP a b
  | _ => none
def gtOP : List PV → Option PV
  | [.int a, .int b] => some (.bl (decide (b < a)))
  | _ => none
def geTP (a b : List PV) : Option PV := (intsOf a).bind fun ns => (intsOf b).map fun ms => .bl (leI ms ns)
def geOP : List PV → Option PV
  | [.int a, .int b] => some (.bl (decide (b ≤ a)))
  | [.tup a, .tup b] => geTP a b
  | _ => none
def PV.isNon : PV → Bool
  | .non => true
  | _ => false
def isNP : List PV → Option PV
  | [p] => some (.bl p.isNon)
  | _ => none
def isNNP : List PV → Option PV
  | [p] => some (.bl (!p.isNon))
  | _ => none
def isBP (b : Bool) : List PV → Option PV
  | [.bl c] => some (.bl (c == b))
  | _ => none
def isNBP (b : Bool) : List PV → Option PV
  | [.bl c] => some (.bl (!(c == b)))
  | _ => none
def inP : List PV → Option PV
  | [a, .lst l] => if a.isD 60 = true ∧ (PV.lst l).isD 60 = true then some (.bl (l.any fun z => eqP z a)) else none
  | [a, .tup l] => if a.isD 60 = true ∧ (PV.tup l).isD 60 = true then some (.bl (l.any fun z => eqP z a)) else none
  | [.int i, .dK ks _] => some (.bl (hasK (Sum.inl i) ks))
  | [.str i, .dK ks _] => some (.bl (hasK (Sum.inr i) ks))
  | _ => none
def ninP : List PV → Option PV
  | [a, .lst l] => if a.isD 60 = true ∧ (PV.lst l).isD 60 = true then some (.bl (!l.any fun z => eqP z a)) else none
  | [a, .tup l] => if a.isD 60 = true ∧ (PV.tup l).isD 60 = true then some (.bl (!l.any fun z => eqP z a)) else none
  | [.int i, .dK ks _] => some (.bl (!hasK (Sum.inl i) ks))
  | [.str i, .dK ks _] => some (.bl (!hasK (Sum.inr i) ks))
  | _ => none
def lenP : List PV → Option PV
  | [.lst l] => some (.int l.length)
  | [.tup l] => some (.int l.length)
  | [.dK ks _] => some (.int ks.length)
  | [.str x] => if x.length ≤ LIM then some (.int x.length) else none
  | _ => none
def sumP : List PV → Option PV
  | [.lst l] => (intsOf l).map fun ns => .int ns.sum
  | [.tup l] => (intsOf l).map fun ns => .int ns.sum
  | _ => none
def absP : List PV → Option PV
  | [.int a] => some (.int (if a < 0 then -a else a))
  | _ => none
def PV.isSeq : PV → Bool
  | .lst _ => true
  | .tup _ => true
  | _ => false
def int1P : List PV → Option PV
  | [.int a] => some (.int a)
  | [.bl b] => some (.int (if b = true then 1 else 0))
  | _ => none
def str1P : List PV → Option PV
  | [.int a] => if a.natAbs.log2 < 1920 then some (.str (toString a)) else none
  | _ => none
/-- the numbers of a dict of ints -/
def intD : List Key → List PV → Option (List (Int × Int))
  | [], [] => some []
  | .inl k :: ks, .int v :: l => (intD ks l).map fun r => (k, v) :: r
  | _, _ => none
def shownK (qs : List (Int × Int)) : PyData := .dict (qs.map fun q => (.int q.1, .int q.2))
def strKP (ks : List Key) (l : List PV) : Option PV := match intD ks l with
  | some qs => if (shownK qs).showable = true ∧ (shownK qs).shown.length ≤ LIM then some (.str (shownK qs).shown) else none
  | none => none
def str0P : PV → Option PV
  | .dK ks l => strKP ks l
  | .non => some (.str "None")
  | .bl b => some (.str (if b = true then "True" else "False"))
  | .str x => some (.str x)
  | _ => none
/-- str(x): an int, or data -/
def strDP (ps : List PV) : Option PV := match str1P ps with
  | some r => some r
  | none => match ps with
    | [p] => if p.isSeq = true ∧ p.isD 60 = true ∧ p.toD.showable = true ∧ p.toD.shown.length ≤ LIM then some (.str p.toD.shown) else str0P p
    | _ => none
/-- list(d.values()), sum(d.values()) -/
def valsLP : List PV → Option PV
  | [.dK _ l] => some (.lst l)
  | _ => none
def valsSP : List PV → Option PV
  | [.dK _ l] => (intsOf l).map fun ns => .int ns.sum
  | _ => none
/-- the least, z where there is none -/
def minDf (z : Int) : List Int → Int
  | [] => z
  | n :: r => r.foldl (fun a y => if y < a then y else a) n
def minVP (z : Int) : List PV → Option PV
  | [.dK _ l] => (intsOf l).map fun ns => .int (minDf z ns)
  | _ => none
def minTP (z : Int) : List PV → Option PV
  | [.tup l] => (intsOf l).map fun ns => .int (minDf z ns)
  | _ => none
/-- sorted(set(x)) -/
def insU (x : Int) : List Int → List Int
  | [] => [x]
  | y :: ys => if x < y then x :: y :: ys else if x = y then y :: ys else y :: insU x ys
def sortU : List Int → List Int
  | [] => []
  | x :: xs => insU x (sortU xs)
def ssetP : List PV → Option PV
  | [.lst l] => (intsOf l).bind fun ns => if ns.length < 4000 then some (.lst ((sortU ns).map .int)) else none
  | [.tup l] => (intsOf l).bind fun ns => if ns.length < 4000 then some (.lst ((sortU ns).map .int)) else none
  | _ => none
def lsetP : List PV → Option PV
  | [.lst l] => (intsOf l).bind fun ns => if ns.length < 4000 then some (.int (sortU ns).length) else none
  | _ => none
/-- sorted(set(x)), x a list of tuples of ints -/
def ltR : List Int → List Int → Bool
  | [], [] => false
  | [], _ :: _ => true
  | _ :: _, [] => false
  | x :: xs, y :: ys => if x = y then ltR xs ys else decide (x < y)
def insR (x : List Int) : List (List Int) → List (List Int)
  | [] => [x]
  | y :: ys => if x = y then y :: ys else if ltR x y = true then x :: y :: ys else y :: insR x ys
def sortR : List (List Int) → List (List Int)
  | [] => []
  | x :: xs => insR x (sortR xs)
def rowsP : List PV → Option (List (List Int))
  | [] => some []
  | p :: l => match p with
    | .tup m => match intsOf m, rowsP l with
      | some k, some r => some (k :: r)
      | _, _ => none
    | _ => none
/-- rows that are known or plain tuples of ints -/
def rowsX : List PV → Option (List (List Int))
  | [] => some []
  | p :: l => match p with
    | .tup m => match intsOf m, rowsX l with
      | some k, some r => some (k :: r)
      | _, _ => none
    | .xt m => match intsOf m, rowsX l with
      | some k, some r => some (k :: r)
      | _, _ => none
    | _ => none
def lsetXP : List PV → Option PV
  | [.lst l] => (rowsX l).bind fun rs => if rs.length < 64 then some (.int (sortR rs).length) else none
  | _ => none
def ssetTP : List PV → Option PV
  | [.lst l] => (rowsP l).bind fun rs => if rs.length < 64 ∧ rs.all (fun r => !r.isEmpty) = true then some (.lst ((sortR rs).map fun r => .tup (r.map .int))) else none
  | _ => none
/-! texts -/
def strsOf : List PV → Option (List Str)
  | [] => some []
  | .str x :: l => (strsOf l).map (x :: ·)
  | _ => none
def joinP : List PV → Option PV
  | [.str a, .lst l] => (strsOf l).bind fun ys => if (ys.map (·.length)).sum + ys.length * a.length ≤ LIM then some (.str (Txt.join a ys)) else none
  | _ => none
def splitP : List PV → Option PV
  | [.str a, .str b] => if (b.length == 0) = false ∧ a.length + 2 ≤ LIM then some (.lst ((Txt.split a b).map .str)) else none
  | _ => none
def strip2P : List PV → Option PV
  | [.str a, .str b] => if a.length ≤ LIM then some (.str (Txt.stripChars a b)) else none
  | _ => none
def intSP : List PV → Option PV
  | [.str a] => if a.length ≤ 640 then (PySem.intText? a).map .int else none
  | _ => none
def idxSP : List PV → Option PV
  | [.str z, .int i] => if z.length ≤ LIM then (L2.atI z.cps.toList i).map fun c => .str ⟨#[c]⟩ else none
  | _ => none
def oneC (a : Str) : Option Nat := match a.cps.toList with
  | [c] => some c
  | _ => none
def inSP : List PV → Option PV
  | [.str a, .str z] => (oneC a).map fun c => .bl (decide (c ∈ z.cps.toList))
  | _ => none
def signsP (x : Str) : List PV := x.cps.toList.map fun c => .str ⟨#[c]⟩
def tuple1P : List PV → Option PV
  | [.lst l] => some (.tup l)
  | [.tup l] => some (.tup l)
  | [.xt l] => some (.xt l)
  | _ => none
def list1P : List PV → Option PV
  | [.lst l] => some (.lst l)
  | [.tup l] => some (.lst l)
  | _ => none
def intKeys : List Key → Option (List Int)
  | [] => some []
  | .inl i :: l => (intKeys l).map (i :: ·)
  | _ => none
def sortedP : List PV → Option PV
  | [.lst l] => (intsOf l).map fun ns => .lst ((sortI ns).map .int)
  | [.tup l] => (intsOf l).map fun ns => .lst ((sortI ns).map .int)
  | [.dK ks _] => if ks.length < 64 then (intKeys ks).map fun ns => .lst ((sortI ns).map .int) else none
  | _ => none
def allLP : List PV → Option PV
  | [.lst l] => (blsOf l).map fun ns => .bl (ns.all id)
  | _ => none
def anyLP : List PV → Option PV
  | [.lst l] => (blsOf l).map fun ns => .bl (ns.any id)
  | _ => none
def min2P : List PV → Option PV
  | [.int a, .int b] => some (.int (if b < a then b else a))
  | _ => none
def max2P : List PV → Option PV
  | [.int a, .int b] => some (.int (if b > a then b else a))
  | _ => none
def mx2 (a b : Int) : Int := if b > a then b else a
def mn2 (a b : Int) : Int := if b < a then b else a
def min3P : List PV → Option PV
  | [.int a, .int b, .int c] => some (.int (mn2 (mn2 a b) c))
  | _ => none
def max3P : List PV → Option PV
  | [.int a, .int b, .int c] => some (.int (mx2 (mx2 a b) c))
  | _ => none
def minI : List Int → Option Int
  | [] => none
  | n :: ns => some (ns.foldl (fun a b => if b < a then b else a) n)
def maxI : List Int → Option Int
  | [] => none
  | n :: ns => some (ns.foldl (fun a b => if b > a then b else a) n)
def minLP : List PV → Option PV
  | [.lst l] => (intsOf l).bind fun ns => (minI ns).map .int
  | _ => none
def maxLP : List PV → Option PV
  | [.lst l] => (intsOf l).bind fun ns => (maxI ns).map .int
  | _ => none
def ltD (a b : PV) : Bool := PySem.W.dataLt a.toD b.toD
def alikeP (a b : PV) : Bool := PySem.W.alike a.toD b.toD
def PV.tup1 : PV → Bool
  | .tup (_ :: _) => true
  | .xt (_ :: _) => true
  | _ => false
def PV.noTup : PV → Bool
  | .tup _ => false
  | .xt _ => false
  | .gt _ => false
  | .non => false
  | _ => true
def PV.noNon : PV → Bool
  | .non => false
  | _ => true
def sortOk (l : List PV) : Bool := (PV.lst l).isD 60 && (l.all fun a => l.all fun b => alikeP a b) && (l.all PV.tup1 || l.all PV.noTup) && decide (l.length ≤ LIM)
def minOk (l : List PV) : Bool := (PV.lst l).isT 60 && (l.all fun a => l.all fun b => alikeP a b) && l.all PV.noNon
def leD (a b : PV) : Bool := !ltD b a
def sortD (l : List PV) : List PV := l.mergeSort leD
def sortX (l : List PV) : Option PV := match l with
  | [x] => some (.lst [x])
  | l => if sortOk l = true then some (.lst (sortD l)) else none
def sortedDP (ps : List PV) : Option PV := match sortedP ps with
  | some r => some r
  | none => match ps with
    | [.lst l] => sortX l
    | _ => none
def minDP (ps : List PV) : Option PV := match minLP ps with
  | some r => some r
  | none => match ps with
    | [.lst (x :: l)] => if minOk (x :: l) = true then some (l.foldl (fun a y => if ltD y a = true then y else a) x) else none
    | [.tup (x :: l)] => if minOk (x :: l) = true then some (l.foldl (fun a y => if ltD y a = true then y else a) x) else none
    | _ => none
def max2DP : List PV → Option PV
  | [.tup a, .tup b] => if minOk [.tup a, .tup b] = true then some (if ltD (.tup a) (.tup b) = true then .tup b else .tup a) else none
  | _ => none
def maxDP (ps : List PV) : Option PV := match maxLP ps with
  | some r => some r
  | none => match ps with
    | [.lst (x :: l)] => if minOk (x :: l) = true then some (l.foldl (fun a y => if ltD a y = true then y else a) x) else none
    | [.tup (x :: l)] => if minOk (x :: l) = true then some (l.foldl (fun a y => if ltD a y = true then y else a) x) else none
    | [.dK ks _] => (intKeys ks).bind fun ns => (maxI ns).map .int
    | _ => none
def idxP : List PV → Option PV
  | [.lst l, .int i] => atI l i
  | [.tup l, .int i] => atI l i
  | [.dK ks vs, .int k] => findK (Sum.inl k) ks vs
  | [.dK ks vs, .str k] => findK (Sum.inr k) ks vs
  | _ => none
def slcPart (b : Bool) : List PV → Option (Option Int × List PV)
  | l => if b = true then match l with
      | .int i :: r => some (some i, r)
      | _ => none
    else some (none, l)
def slcP (lo hi : Bool) : List PV → Option PV
  | x :: as => match slcPart lo as with
    | some (a, as') => match slcPart hi as' with
      | some (b, []) => match x with
        | .lst l => some (.lst (cutP l a b))
        | .tup l => some (.tup (cutP l a b))
        | .xt l => if (cutP l a b).length = l.length then some (.xt l) else some (.tup (cutP l a b))
        | .str z => if z.length ≤ LIM then some (.str (L2.cutS z a b)) else none
        | _ => none
      | _ => none
    | none => none
  | _ => none
/-- t[i:], of a known tuple a known one -/
def slcXP : List PV → Option PV
  | [.xt l, .int i] => some (.xt (cutP l (some i) none))
  | [.tup l, .int i] => some (.tup (cutP l (some i) none))
  | _ => none
/-- a refusal made of a text, not raised -/
def mkXP (c : Str) : List PV → Option PV
  | [_] => some (.exc c)
  | _ => none
/-- t[::-1] of a tuple whose object is known -/
def revXP : List PV → Option PV
  | [.xt l] => some (.xt l.reverse)
  | [.tup l] => some (.xt l.reverse)
  | _ => none
def dgetP : List PV → Option PV
  | [.dK ks vs, .int k, .int d] => some ((findK (Sum.inl k) ks vs).getD (.int d))
  | [.dK ks vs, .str k, .int d] => some ((findK (Sum.inr k) ks vs).getD (.int d))
  | _ => none
def dmodP : List PV → Option PV
  | [.int a, .int b] => if 0 < b ∧ b.natAbs.log2 < 9000 then some (.tup [.int (a / b), .int (a % b)]) else none
  | _ => none
def cntP (l : List PV) (a : PV) : Option PV := if (PV.lst l).isD 60 = true ∧ a.isD 60 = true then some (.int (l.countP fun z => eqP z a : Nat)) else none
def lcntP : List PV → Option PV
  | [.lst l, a] => cntP l a
  | _ => none
def tcntP : List PV → Option PV
  | [.xt l, a] => cntP l a
  | _ => none
def lidxP : List PV → Option PV
  | [.lst l, a] => if (PV.lst l).isD 60 = true ∧ a.isD 60 = true ∧ l.length ≤ LIM then (l.findIdx? fun z => eqP z a).map fun j => .int (j : Nat) else none
  | _ => none
def bitsP : List PV → Option PV
  | [.int i] => some (.int (Builtin.Int.intBits i : Nat))
  | _ => none
def revP : List PV → Option PV
  | [.lst l] => some (.lst l.reverse)
  | [.tup l] => some (.tup l.reverse)
  | _ => none
def pairsK : List PV → Option (List (Key × PV))
  | [] => some []
  | .tup [k, v] :: l => match keyP k, pairsK l with
    | some k, some r => some ((k, v) :: r)
    | _, _ => none
  | _ => none
def dmk : List (Key × PV) → List Key → List PV → PV
  | [], ks, vs => .dK ks vs
  | q :: r, ks, vs => dmk r (putKs q.1 ks) (putVs q.1 q.2 ks vs)
def tupleXP : List PV → Option PV
  | [.lst l] => some (.xt l)
  | [.xt l] => some (.xt l)
  | _ => none
/-! dicts whose keys are tuples -/
def idxTP : List PV → Option PV
  | [.dT ks vs, .tup k] => (keysT k).bind fun k => findK k ks vs
  | [.dX ks vs, p] => if p.kok = true then findK p.kq (ks.map PV.kq) vs else none
  | _ => none
def dgetTP : List PV → Option PV
  | [.dT ks vs, .tup k, .int d] => (keysT k).map fun k => (findK k ks vs).getD (.int d)
  | [.dX ks vs, p, .int d] => if p.kok = true then some ((findK p.kq (ks.map PV.kq) vs).getD (.int d)) else none
  | _ => none
def innTP : List PV → Option PV
  | [.tup k, .dT ks _] => (keysT k).map fun k => .bl (hasK k ks)
  | [p, .dX ks _] => if p.kok = true then some (.bl (hasK p.kq (ks.map PV.kq))) else none
  | _ => none
def ninTP : List PV → Option PV
  | [.tup k, .dT ks _] => (keysT k).map fun k => .bl (!hasK k ks)
  | [p, .dX ks _] => if p.kok = true then some (.bl (!hasK p.kq (ks.map PV.kq))) else none
  | _ => none
def keyQ : Key → PV
  | .inl i => .int i
  | .inr x => .str x
def tupQ (k : List Key) : PV := .tup (k.map keyQ)
def PV.flat : PV → Bool
  | .int _ => true
  | .str _ => true
  | _ => false
def PV.keyTup : PV → Bool
  | .tup m => m.all PV.flat
  | _ => false
/-- sorted(d), the keys lists of ints -/
def sortTP : List PV → Option PV
  | [.dT ks _] => if sortOk (ks.map tupQ) = true then some (.lst (sortD (ks.map tupQ))) else none
  | [.dX ks _] => if sortOk ks = true then some (.lst (sortD ks)) else none
  | _ => none
/-- the pairs of dict(pairs), the keys tuples -/
def pairsT : List PV → Option (List (List Key × PV))
  | [] => some []
  | p :: l => match p with
    | .tup [.tup k, v] => match keysT k, pairsT l with
      | some k, some r => some ((k, v) :: r)
      | _, _ => none
    | _ => none
def dictTP : List PV → Option PV
  | [.xt l] => if l.length ≤ LIM then (pairsT l).bind fun r => if (r.map (·.1)).Nodup then some (.dT (r.map (·.1)) (r.map (·.2))) else none else none
  | _ => none
def dict1P : List PV → Option PV
  | [.dK _ _] => none
  | [.xt l] => if l.length ≤ LIM then (pairsK l).map fun r => dmk r [] [] else none
  | [.lst l] => if l.length ≤ LIM then (pairsK l).map fun r => dmk r [] [] else none
  | _ => none
def isTyOP (ts : List String) : List PV → Option PV
  | [p] => (isTys ts p).map .bl
  | _ => none
/-- whether an instance of the refusal c is one of x (all refusals stand straight under one class) -/
def subX (c x : Str) : Bool := decide (x = "BrimError") || (decide (x = "ValueError") || decide (x = c))
def isExP (kn cs : List Str) (ps : List PV) : Option PV := match ps with
  | [.exc c] => if c ∈ kn ∧ ∀ x ∈ cs, x ∈ ("BrimError" : Str) :: "ValueError" :: kn then some (.bl (cs.any (subX c))) else none
  | [.non] => if ∀ x ∈ cs, x ∈ ("BrimError" : Str) :: "ValueError" :: kn then some (.bl false) else none
  | _ => none
def opSem (o : Op) (ps : List PV) : Option PV := match o with
  | .add => addP ps | .sub => subP ps | .mul => mulP ps | .fdiv => fdivP ps | .mod => modP ps | .pow => powP ps | .neg => negP ps
  | .eq => eqOP ps | .ne => neOP ps | .lt => ltOP ps | .le => leOP ps | .gt => gtOP ps | .ge => geOP ps
  | .isN => isNP ps | .isNN => isNNP ps | .isB b => isBP b ps | .isNB b => isNBP b ps | .inn => inP ps | .nin => ninP ps
  | .len => lenP ps | .sum => sumP ps | .abs => absP ps | .int1 => int1P ps | .str1 => str1P ps | .tuple1 => tuple1P ps | .list1 => list1P ps
  | .dict1 => dict1P ps | .sorted => sortedP ps | .allL => allLP ps | .anyL => anyLP ps | .min3 => min3P ps | .max3 => max3P ps | .min2 => min2P ps | .max2 => max2P ps | .minL => minLP ps | .maxL => maxLP ps
  | .idx => idxP ps | .slc lo hi => slcP lo hi ps | .rev => revP ps | .dget => dgetP ps | .isTy ts => isTyOP ts ps | .values => none | .dmod => dmodP ps
  | .lcnt => lcntP ps | .tcnt => tcntP ps | .lidx => lidxP ps | .bits => bitsP ps | .sortedD => sortedDP ps | .minD => minDP ps | .maxD => maxDP ps | .max2D => max2DP ps | .strD => strDP ps | .valsL => valsLP ps | .valsS => valsSP ps | .minV z => minVP z ps | .minT z => minTP z ps | .sset => ssetP ps | .ssetT => ssetTP ps | .lset => lsetP ps | .join => joinP ps | .split => splitP ps | .strip2 => strip2P ps | .intS => intSP ps | .idxS => idxSP ps | .inS => inSP ps | .dictT => dictTP ps | .addX => addXP ps | .isEx kn cs => isExP kn cs ps | .tupleX => tupleXP ps | .idxT => idxTP ps | .dgetT => dgetTP ps | .innT => innTP ps | .ninT => ninTP ps | .sortT => sortTP ps | .slcX => slcXP ps | .lsetX => lsetXP ps | .revX => revXP ps | .mkX c => mkXP c ps
/-- these see whether a tuple's object is known -/
def Op.raw : Op → Bool
  | .dictT => true | .addX => true | .max2D => true | .tcnt => true | .idxT => true | .dgetT => true | .innT => true | .ninT => true | .sortT => true | .dict1 => true | .tupleX => true | .add => true | .mul => true | .tuple1 => true | .slc _ _ => true | .slcX => true | .revX => true
  | _ => false
def opX (o : Op) (ps : List PV) : Option PV := opSem o (if o.raw = true then ps else ps.map PV.dn)
/-- whether a list or dict that the operation tells is a new one -/
def Op.new : Op → Bool
  | .add => true | .mul => true | .list1 => true | .sorted => true | .slc _ _ => true | .rev => true | .dict1 => true | .dictT => true | .values => true | .valsL => true | .sset => true | .ssetT => true | .split => true | .sortedD => true | .sortT => true
  | _ => false

/-- a new object is our own -/
def ownV (o : Op) (p : PV) : LV := if o.new = true then match p with
  | .lst l => .own (.lst l)
  | .dK ks l => .own (.dK ks l)
  | .dT ks l => .own (.dT ks l)
  | .dX ks l => .own (.dX ks l)
  | p => .fro p else .fro p
/-- it is no list or dict -/
def PV.loose : PV → Bool
  | .lst _ => false
  | .dK _ _ => false
  | .dT _ _ => false
  | .dX _ _ => false
  | _ => true

/-- whose method it is -/
def recvOk : Op → Option PV → Bool
  | .dget, some (.dK _ _) => true
  | .dgetT, some (.dT _ _) => true
  | .dgetT, some (.dX _ _) => true
  | .values, some (.dK _ _) => true
  | .lcnt, some (.lst _) => true
  | .join, some (.str _) => true
  | .split, some (.str _) => true
  | .strip2, some (.str _) => true
  | .lidx, some (.lst _) => true
  | .tcnt, some (.xt _) => true
  | _, _ => false

/-- the keys of a dict whose keys are values, with one more -/
def putXs (p : PV) (ks : List PV) : List PV := if p.kq ∈ ks.map PV.kq then ks else ks ++ [p]
/-- x[k] = p, x our own -/
def setIxP (l : LV) (k p : PV) : Option LV := match l, k with
  | .own (.lst l), .int i => (ixN l.length i).map fun j => .own (.lst (l.set j p))
  | .own (.dK ks vs), k => (keyP k).bind fun k => if ks.length < LIM then some (.own (.dK (putKs k ks) (putVs k p ks vs))) else none
  | .own (.dT ks vs), .tup k => (keysT k).bind fun k => if ks.length < LIM then some (.own (.dT (putKs k ks) (putVs k p ks vs))) else none
  | .own (.dX ks vs), k => if k.kok = true ∧ ks.length < LIM then some (.own (.dX (putXs k ks) (putVs k.kq p (ks.map PV.kq) vs))) else none
  | _, _ => none
/-- the part of a state that a slot names -/
def at' (ρ : Env) (i : Nat) : Option LV := match ρ[i]? with
  | some (some l) => some l
  | _ => none
/-- a number that a slot names -/
def slotInt (ρ : Env) (j : Nat) : Option Int := match at' ρ j with
  | some (.fro (.int k)) => some k
  | _ => none
/-! ### targets -/
mutual
def Tg.bind : Tg → PV → Env → Option Env
  | .one i, p, ρ => some (ρ.set i (some (.fro p)))
  | .at i k, p, ρ => match (at' ρ i).bind fun l => setIxP l (.int k) p with
    | some l => some (ρ.set i (some l))
    | none => none
  | .atV i j, p, ρ => match (slotInt ρ j).bind fun k => (at' ρ i).bind fun l => setIxP l (.int k) p with
    | some l => some (ρ.set i (some l))
    | none => none
  | .tup ts, p, ρ => match p with
    | .tup l => if l.length = ts.length then Tg.binds ts l ρ else none
    | .lst l => if l.length = ts.length then Tg.binds ts l ρ else none
    | .xt l => if l.length = ts.length then Tg.binds ts l ρ else none
    | _ => none
def Tg.binds : List Tg → List PV → Env → Option Env
  | [], [], ρ => some ρ
  | t :: ts, p :: ps, ρ => match t.bind p ρ with
    | some ρ' => Tg.binds ts ps ρ'
    | none => none
  | _, _, _ => none
end
/-- slots forgotten -/
def wipeE (ρ : Env) : List Nat → Env
  | [] => ρ
  | v :: vs => (wipeE ρ vs).set v none
/-- slots of the first, as far as they are frozen, put back -/
def backE (ρ ρ' : Env) : List Nat → Env
  | [] => ρ'
  | v :: vs => match ρ[v]? with
    | some (some (.fro p)) => (backE ρ ρ' vs).set v (some (.fro p))
    | _ => (backE ρ ρ' vs).set v none

/-! ### expressions -/
def compL (f : PV → Env → ER (Option PV)) : List PV → Env → ER (List PV)
  | [], ρ => .ok [] ρ
  | x :: xs, ρ => match f x ρ with
    | .ok (some y) ρ1 => match compL f xs ρ1 with
      | .ok ys ρ2 => .ok (y :: ys) ρ2
      | _ => .st
    | .ok none ρ1 => compL f xs ρ1
    | _ => .st
def rngP (a b : Int) : List PV := (List.range (b - a).toNat).map fun k => .int (a + (k : Nat))
def rngOk (a : Int) : Prop := -(2 ^ 62) ≤ a ∧ a < 2 ^ 62
instance (a : Int) : Decidable (rngOk a) := by unfold rngOk; infer_instance
/-- what is told of a call -/
def callE (g : List LV → CR) (avs : List AV) (ρ : Env) : ER LV := match AV.lvs ρ avs with
  | some ls => if (AV.refs avs).Nodup then match g ls with
      | .ok r ls' => if ls'.length = ls.length then .ok r (AV.back ρ avs (maskL ls ls')) else .st
      | .ex c ls' => if ls'.length = ls.length then .ex c (AV.back ρ avs (maskL ls ls')) else .st
      | .st => .st
    else .st
  | none => .st
/-- one slot more in front -/
def AV.sh : AV → AV
  | .val p => .val p
  | .ref i => .ref (i + 1)
/-- slot i holds an instance of the class c with just these attributes -/
def insAt (ρ : Env) (i : Nat) (c : Str) (ns : List Str) : Bool := match ρ[i]? with
  | some (some (.ins d ms _)) => decide (d = c ∧ ms = ns)
  | _ => false
/-- the attributes of the instance in slot i -/
def insLs (ρ : Env) (i : Nat) (c : Str) (ns : List Str) : Option (List LV) := match ρ[i]? with
  | some (some (.ins d ms ls)) => if d = c ∧ ms = ns then some ls else none
  | _ => none
def fldE (o : Option LV) (ρ : Env) : ER PV := match o with
  | some (.fro p) => .ok p ρ
  | _ => .st
def fldO (o : Op) (l : Option LV) : Option PV := match l with
  | some l => l.pv.bind fun p => opX o [p]
  | none => none
/-- a new instance: its __init__ tells nothing -/
def madeT (r : ER LV) : ER LV := match r with
  | .ok (.fro .non) (some l :: ρ) => .ok l ρ
  | _ => .st
def makeE (g : List LV → CR) (c : Str) (avs : List AV) (ρ : Env) : ER LV := madeT (callE g (.ref 0 :: avs.map AV.sh) (some (.ins c [] []) :: ρ))
/-- a call with a temporary of our own in front of the slots, then dropped -/
def dropT (r : ER LV) : ER LV := match r with
  | .ok r ρ => .ok r ρ.tail
  | .ex c ρ => .ex c ρ.tail
  | .st => .st
/-- a new dict -/
def newL (t : Bool) : LV := if t = true then .own (.dT [] []) else .own (.dK [] [])
def callT (g : List LV → CR) (avs : List AV) (l : LV) (bvs : List AV) (ρ : Env) : ER LV := dropT (callE g (avs.map AV.sh ++ .ref 0 :: bvs.map AV.sh) (some l :: ρ))
def froE (r : ER LV) : ER PV := r.bind fun l ρ => ER.of l.pv ρ
def enumF : Nat → List PV → List PV
  | _, [] => []
  | k, p :: l => .tup [.int (k : Nat), p] :: enumF (k + 1) l
def enumP (l : List PV) : List PV := enumF 0 l
def zipP : List PV → List PV → List PV
  | p :: l, q :: m => .tup [p, q] :: zipP l m
  | _, _ => []
def seqOf : PV → Option (List PV)
  | .lst l => some l
  | .tup l => some l
  | .xt l => some l
  | .gt l => some l
  | _ => none
def enumS (p : PV) (ρ1 : Env) : ER (List PV) := match p with
    | .lst l => .ok (enumP l) ρ1
    | .tup l => .ok (enumP l) ρ1
    | .xt l => .ok (enumP l) ρ1
    | _ => .st
theorem seqOf_dn (p : PV) : seqOf p = seqOf p.dn := by cases p <;> rfl

def ownL (ρ : Env) (i : Nat) : Bool := match at' ρ i with
  | some (.own (.lst _)) => true
  | _ => false
def ownD (ρ : Env) (i : Nat) : Bool := match at' ρ i with
  | some (.own (.dK _ _)) => true
  | _ => false
/-- {x: y} -/
def dispP (ρ : Env) (i j : Nat) : Option PV := match at' ρ i, at' ρ j with
  | some (.fro k), some (.fro q) => (keyP k).map fun key => .dK [key] [q]
  | _, _ => none
/-- x.pop(j): what it tells, and the list behind it -/
def popP (l : Option LV) (p : PV) : Option (PV × LV) := match l, p with
  | some (.own (.lst l)), .int j => if 0 ≤ j ∧ j < LIM then (l[j.toNat]?).map fun x => (x, .own (.lst (l.eraseIdx j.toNat))) else none
  | _, _ => none
def poplP (l : Option LV) : Option (PV × LV) := match l with
  | some (.own (.lst l)) => (l[l.length - 1]?).map fun x => (x, .own (.lst l.dropLast))
  | _ => none
/-- without the key -/
def dropV (k : Key) (ks : List Key) (vs : List PV) : List (Key × PV) := (ks.zip vs).filter fun p => decide (p.1 ≠ k)
def popDP (l : Option LV) (p : PV) : Option (PV × LV) := match l with
  | some (.own (.dK ks vs)) => (keyP p).bind fun k => (findK k ks vs).map fun x => (x, .own (.dK ((dropV k ks vs).map (·.1)) ((dropV k ks vs).map (·.2))))
  | _ => none
/-- the list of slot i is so now -/
def putE (i : Nat) (o : Option (PV × LV)) (ρ : Env) : ER PV := match o with
  | some (x, l) => .ok x (ρ.set i (some l))
  | none => .st
/-- a dict's keys, its pairs -/
def keyPV : Key → PV
  | .inl i => .int i
  | .inr x => .str x
def keysP (ks : List Key) : List PV := ks.map keyPV
def itemsP : List Key → List PV → List PV
  | k :: ks, v :: vs => .tup [keyPV k, v] :: itemsP ks vs
  | _, _ => []
/-! what may outlive the walk over a dict: nothing that may hold it -/
mutual
def PV.noD : PV → Bool
  | .tup l => PV.noDs l
  | .xt l => PV.noDs l
  | .lst l => PV.noDs l
  | .dK _ _ => false
  | .dT _ _ => false
  | .dX _ _ => false
  | .obj _ _ _ => false
  | .gt _ => false
  | _ => true
def PV.noDs : List PV → Bool
  | [] => true
  | p :: l => p.noD && PV.noDs l
end
def thinL : LV → Option LV
  | .fro p => if p.noD = true then some (.fro p) else none
  | .own (.lst l) => if PV.noDs l = true then some (.own (.lst l)) else none
  | .own (.dK ks l) => if PV.noDs l = true then some (.own (.dK ks l)) else none
  | .own (.dT ks l) => if PV.noDs l = true then some (.own (.dT ks l)) else none
  | .own (.dX ks l) => if PV.noDs l = true ∧ PV.noDs ks = true then some (.own (.dX ks l)) else none
  | _ => none
def thinO (o : Option LV) : Option LV := o.bind thinL
def thin (ρ : Env) : Env := ρ.map thinO
/-- our own thing again in slot i -/
def putO (i : Nat) (l : LV) (r : ER PV) : ER PV := r.bind fun p ρ => .ok p (ρ.set i (some l))
def ER.calm {α : Type} (r : ER α) : ER α := match r with
  | .ok a ρ => .ok a ρ
  | _ => .st
/-- behind a comprehension over a dict that was ours -/
def lockE (i : Nat) (l : LV) (r : ER PV) : ER PV := match r with
  | .ok (.lst ys) ρ => if PV.noDs ys = true then .ok (.lst ys) ((thin ρ).set i (some l)) else .st
  | _ => .st
/-- an index: a name's number, or a known one -/
def ixOf (ρ : Env) : Nat ⊕ Int → Option Int
  | .inl j => slotInt ρ j
  | .inr k => some k
def ofldP (l : Option LV) (c : Str) (ns : List Str) (k : Nat) : Option PV := match l with
  | some (.fro (.obj d ms ps)) => if d = c ∧ ms = ns then ps[k]? else none
  | _ => none
def fixP (l : Option LV) (j : Option Int) : Option PV := match l, j with
  | some (.own (.lst l)), some j => atI l j
  | _, _ => none
/-- what a locked call may tell -/
def PV.bare : PV → Bool
  | .non => true
  | .bl _ => true
  | .int _ => true
  | .str _ => true
  | _ => false
def LV.bare : LV → Bool
  | .fro p => p.bare
  | .own (.lst l) => l.all PV.bare
  | _ => false
def pvsL : List LV → Option (List PV)
  | [] => some []
  | l :: ls => match l.pv, pvsL ls with
    | some p, some ps => some (p :: ps)
    | _, _ => none
/-- a call of a method that reads alone: the instance is frozen as long as it runs -/
def callR (g : List LV → CR) (i : Nat) (c : Str) (ns : List Str) (avs : List AV) (ρ : Env) : ER LV := match (insLs ρ i c ns).bind pvsL, AV.lvs ρ avs with
  | some ps, some ls => if ls.all LV.isFro = true then match g (.fro (.obj c ns ps) :: ls) with
      | .ok r _ => if r.bare = true then .ok r ρ else .st
      | _ => .st
    else .st
  | _, _ => .st
section
variable (Φ : Nat → List LV → CR)
mutual
def evE : Ex → Env → ER PV
  | .frz e, ρ => evE e ρ
  | .ofld i c ns k, ρ => ER.of (ofldP (at' ρ i) c ns k) ρ
  | .fix i c ns k ix, ρ => ER.of (fixP ((insLs ρ i c ns).bind fun ls => ls[k]?) (ixOf ρ ix)) ρ
  | .mcallR j i c ns as, ρ => if insAt ρ i c ns = true then (evAs as ρ).bind fun avs ρ1 => froE (callR (Φ j) i c ns avs ρ1) else .st
  | .var i, ρ => match ρ[i]? with
    | some (some (.fro p)) => .ok p ρ
    | some (some (.own p)) => .ok p (ρ.set i (some (.fro p)))
    | _ => .st
  | .cst c, ρ => .ok c ρ
  | .app o as, ρ => (evAs as ρ).bind fun avs ρ1 => ER.of ((AV.pvs ρ1 avs).bind (opX o)) ρ1
  | .mth o a as, ρ => (evA a ρ).bind fun av ρ1 => if recvOk o (av.pv ρ1) = true then (evAs as ρ1).bind fun avs ρ2 => ER.of ((AV.pvs ρ2 (av :: avs)).bind (opSem o)) ρ2 else .st
  | .tup es, ρ => (evEs es ρ).bind fun ps ρ1 => if ps.length ≤ LIM then .ok (.tup ps) ρ1 else .st
  | .lst es, ρ => (evEs es ρ).bind fun ps ρ1 => if ps.length ≤ LIM then .ok (.lst ps) ρ1 else .st
  | .dnew, ρ => .ok (.dK [] []) ρ
  | .call j as, ρ => (evAs as ρ).bind fun avs ρ1 => froE (callE (Φ j) avs ρ1)
  | .sel j1 j2 i as, ρ => match at' ρ i with
    | some (.fro (.int 0)) => (evAs as ρ).bind fun avs ρ1 => froE (callE (Φ j1) avs ρ1)
    | some (.fro (.int 1)) => (evAs as ρ).bind fun avs ρ1 => froE (callE (Φ j2) avs ρ1)
    | _ => .st
  | .mcall j i c ns as, ρ => if insAt ρ i c ns = true then (evAs as ρ).bind fun avs ρ1 => froE (callE (Φ j) (.ref i :: avs) ρ1) else .st
  | .make _ _ _, _ => .st
  | .fld i c ns k, ρ => fldE ((insLs ρ i c ns).bind fun ls => ls[k]?) ρ
  | .fop o i c ns k, ρ => ER.of (fldO o ((insLs ρ i c ns).bind fun ls => ls[k]?)) ρ
  | .and a b, ρ => (evE a ρ).bind fun p ρ1 => match p with
    | .bl true => evE b ρ1
    | .bl false => .ok (.bl false) ρ1
    | _ => .st
  | .or a b, ρ => (evE a ρ).bind fun p ρ1 => match p with
    | .bl false => evE b ρ1
    | .bl true => .ok (.bl true) ρ1
    | _ => .st
  | .not a, ρ => (evE a ρ).bind fun p ρ1 => match p with
    | .bl b => .ok (.bl (!b)) ρ1
    | _ => .st
  | .ite c a b, ρ => (evT c ρ).bind fun t ρ1 => if t = true then evE a ρ1 else evE b ρ1
  | .chain o1 o2 a b c, ρ => (evE a ρ).bind fun p ρ1 => (evE b ρ1).bind fun q ρ2 => match opSem o1 [p, q] with
    | some (.bl true) => (evE c ρ2).bind fun r ρ3 => ER.of (opSem o2 [q, r]) ρ3
    | some (.bl false) => .ok (.bl false) ρ2
    | _ => .st
  | .chain3 o1 o2 o3 a b c d, ρ => (evE a ρ).bind fun p ρ1 => (evE b ρ1).bind fun q ρ2 => match opSem o1 [p, q] with
    | some (.bl true) => (evE c ρ2).bind fun r ρ3 => match opSem o2 [q, r] with
      | some (.bl true) => (evE d ρ3).bind fun u ρ4 => ER.of (opSem o3 [r, u]) ρ4
      | some (.bl false) => .ok (.bl false) ρ3
      | _ => .st
    | some (.bl false) => .ok (.bl false) ρ2
    | _ => .st
  | .sl2 a lo hi, ρ => (evA a ρ).bind fun av ρ1 => (evE lo ρ1).bind fun p ρ2 => match p with
    | .int i => (evE hi ρ2).bind fun q ρ3 => match q with
      | .int j => ER.of ((av.pv ρ3).bind fun x => slcP true true [x, .int i, .int j]) ρ3
      | _ => .st
    | _ => .st
  | .comp s t vs c e, ρ => (evSrc s ρ).bind fun xs ρ1 =>
      if xs.length ≤ LIM then (compL (fun x ρ2 => match t.bind x ρ2 with
        | some ρ3 => (evTs c ρ3).bind fun b ρ4 => if b = true then (evE e ρ4).bind fun y ρ5 => .ok (some y) (wipeE ρ5 vs) else .ok none (wipeE ρ4 vs)
        | none => .st) xs (wipeE ρ1 vs)).bind fun ys ρ6 => .ok (.lst ys) (backE ρ1 ρ6 vs) else .st
  | .compK i t vs c e, ρ => match at' ρ i with
    | some (.own (.dK ks ws)) => if (keysP ks).length ≤ LIM then lockE i (.own (.dK ks ws)) ((compL (fun x ρ2 => match t.bind x ρ2 with
        | some ρ3 => (evTs c ρ3).bind fun b ρ4 => if b = true then (evE e ρ4).bind fun y ρ5 => .ok (some y) (wipeE ρ5 vs) else .ok none (wipeE ρ4 vs)
        | none => .st) (keysP ks) (wipeE (ρ.set i (some (.fro (.dK ks ws)))) vs)).bind fun ys ρ6 => .ok (.lst ys) (backE (ρ.set i (some (.fro (.dK ks ws)))) ρ6 vs)) else .st
    | some (.own (.dT ks ws)) => if (ks.map tupQ).length ≤ LIM then lockE i (.own (.dT ks ws)) ((compL (fun x ρ2 => match t.bind x ρ2 with
        | some ρ3 => (evTs c ρ3).bind fun b ρ4 => if b = true then (evE e ρ4).bind fun y ρ5 => .ok (some y) (wipeE ρ5 vs) else .ok none (wipeE ρ4 vs)
        | none => .st) (ks.map tupQ) (wipeE (ρ.set i (some (.fro (.dT ks ws)))) vs)).bind fun ys ρ6 => .ok (.lst ys) (backE (ρ.set i (some (.fro (.dT ks ws)))) ρ6 vs)) else .st
    | _ => .st
  | .compO i t vs c e, ρ => match at' ρ i with
    | some (.own (.lst l)) => if l.length ≤ LIM then putO i (.own (.lst l)) ((compL (fun x ρ2 => match t.bind x ρ2 with
        | some ρ3 => (evTs c ρ3).bind fun b ρ4 => if b = true then (evE e ρ4).bind fun y ρ5 => .ok (some y) (wipeE ρ5 vs) else .ok none (wipeE ρ4 vs)
        | none => .st) l (wipeE (ρ.set i none) vs)).bind fun ys ρ6 => .ok (.lst ys) (backE (ρ.set i none) ρ6 vs)) else .st
    | _ => .st
  | .mvv i, ρ => match ρ[i]? with
    | some (some (.fro p)) => .ok p ρ
    | some (some (.own p)) => .ok p (ρ.set i (some (.fro p)))
    | _ => .st
  | .popE i e, ρ => if ownL ρ i = true then (evE e ρ).bind fun p ρ1 => putE i (popP (at' ρ1 i) p) ρ1 else .st
  | .popL i, ρ => putE i (poplP (at' ρ i)) ρ
  | .popD i e, ρ => if ownD ρ i = true then (evE e ρ).bind fun p ρ1 => putE i (popDP (at' ρ1 i) p) ρ1 else .st
  | .dispV i j, ρ => ER.of (dispP ρ i j) ρ
  | .disp1 a b, ρ => (evE a ρ).calm.bind fun p ρ1 => (evE b ρ1).calm.bind fun q ρ2 => ER.of ((keyP p).map fun k => .dK [k] [q]) ρ2
  | .callT j as k cs bs, ρ => (evAs as ρ).bind fun avs ρ1 => (evAs cs ρ1).bind fun cvs ρ2 => (callE (Φ k) cvs ρ2).bind fun l ρ3 => (evAs bs ρ3).bind fun bvs ρ4 => froE (callT (Φ j) avs l bvs ρ4)
  | .callN j as t bs, ρ => (evAs as ρ).bind fun avs ρ1 => (evAs bs ρ1).bind fun bvs ρ4 => froE (callT (Φ j) avs (newL t) bvs ρ4)
  | .dnewT, ρ => .ok (.dT [] []) ρ
  | .dnewX, ρ => .ok (.dX [] []) ρ
  | .xtup es, ρ => (evEs es ρ).bind fun ps ρ1 => if ps.length ≤ LIM then .ok (.xt ps) ρ1 else .st
def evA : Arg → Env → ER AV
  | .ref i, ρ => match ρ[i]? with
    | some (some (.fro p)) => .ok (.val p) ρ
    | some (some _) => .ok (.ref i) ρ
    | _ => .st
  | .val e, ρ => (evE e ρ).bind fun p ρ1 => .ok (.val p) ρ1
def evAs : List Arg → Env → ER (List AV)
  | [], ρ => .ok [] ρ
  | a :: as, ρ => (evA a ρ).bind fun av ρ1 => (evAs as ρ1).bind fun avs ρ2 => .ok (av :: avs) ρ2
def evEs : List Ex → Env → ER (List PV)
  | [], ρ => .ok [] ρ
  | e :: es, ρ => (evE e ρ).bind fun p ρ1 => (evEs es ρ1).bind fun ps ρ2 => .ok (p :: ps) ρ2
def evT : Tst → Env → ER Bool
  | .and a b, ρ => (evT a ρ).bind fun t ρ1 => if t = true then evT b ρ1 else .ok false ρ1
  | .or a b, ρ => (evT a ρ).bind fun t ρ1 => if t = true then .ok true ρ1 else evT b ρ1
  | .not a, ρ => (evT a ρ).bind fun t ρ1 => .ok (!t) ρ1
  | .e x, ρ => (evE x ρ).bind fun p ρ1 => match p with
    | .bl b => .ok b ρ1
    | _ => .st
def evTs : List Tst → Env → ER Bool
  | [], ρ => .ok true ρ
  | [c], ρ => evT c ρ
  | _, _ => .st
def evSrc : Src → Env → ER (List PV)
  | .seq e, ρ => (evE e ρ).bind fun p ρ1 => ER.of (seqOf p) ρ1
  | .seqS e, ρ => (evE e ρ).bind fun p ρ1 => match p with
    | .str x => .ok (signsP x) ρ1
    | _ => .st
  | .lock _ _, _ => .st
  | .rng1 a, ρ => (evE a ρ).bind fun p ρ1 => match p with
    | .int j => if rngOk j then .ok (rngP 0 j) ρ1 else .st
    | _ => .st
  | .rng2 a b, ρ => (evE a ρ).bind fun p ρ1 => (evE b ρ1).bind fun q ρ2 => match p, q with
    | .int i, .int j => if rngOk i ∧ rngOk j then .ok (rngP i j) ρ2 else .st
    | _, _ => .st
  | .enum e, ρ => (evE e ρ).bind enumS
  | .zip a b, ρ => (evE a ρ).bind fun p ρ1 => (evE b ρ1).bind fun q ρ2 => match p.dn, q.dn with
    | .lst l, .lst m => .ok (zipP l m) ρ2
    | .tup l, .tup m => .ok (zipP l m) ρ2
    | .lst l, .tup m => .ok (zipP l m) ρ2
    | .tup l, .lst m => .ok (zipP l m) ρ2
    | _, _ => .st
  | .rev e, ρ => (evE e ρ).bind fun p ρ1 => ER.of ((seqOf p).map List.reverse) ρ1
end
/-- a value that may be our own -/
def evL : Ex → Env → ER LV
  | .app o as, ρ => (evE Φ (.app o as) ρ).bind fun p ρ1 => .ok (ownV o p) ρ1
  | .mth o a as, ρ => (evE Φ (.mth o a as) ρ).bind fun p ρ1 => .ok (ownV o p) ρ1
  | .lst es, ρ => (evE Φ (.lst es) ρ).bind fun p ρ1 => .ok (.own p) ρ1
  | .dnew, ρ => .ok (.own (.dK [] [])) ρ
  | .dnewT, ρ => .ok (.own (.dT [] [])) ρ
  | .dnewX, ρ => .ok (.own (.dX [] [])) ρ
  | .dispV i j, ρ => (ER.of (dispP ρ i j) ρ).bind fun p ρ1 => .ok (.own p) ρ1
  | .disp1 a b, ρ => (evE Φ (.disp1 a b) ρ).bind fun p ρ1 => .ok (.own p) ρ1
  | .call j as, ρ => (evAs Φ as ρ).bind fun avs ρ1 => callE (Φ j) avs ρ1
  | .sel j1 j2 i as, ρ => match at' ρ i with
    | some (.fro (.int 0)) => (evAs Φ as ρ).bind fun avs ρ1 => callE (Φ j1) avs ρ1
    | some (.fro (.int 1)) => (evAs Φ as ρ).bind fun avs ρ1 => callE (Φ j2) avs ρ1
    | _ => .st
  | .mcall j i c ns as, ρ => if insAt ρ i c ns = true then (evAs Φ as ρ).bind fun avs ρ1 => callE (Φ j) (.ref i :: avs) ρ1 else .st
  | .mcallR j i c ns as, ρ => if insAt ρ i c ns = true then (evAs Φ as ρ).bind fun avs ρ1 => callR (Φ j) i c ns avs ρ1 else .st
  | .make j c as, ρ => (evAs Φ as ρ).bind fun avs ρ1 => makeE (Φ j) c avs ρ1
  | .fop o i c ns k, ρ => (evE Φ (.fop o i c ns k) ρ).bind fun p ρ1 => .ok (ownV o p) ρ1
  | .callT j as k cs bs, ρ => (evAs Φ as ρ).bind fun avs ρ1 => (evAs Φ cs ρ1).bind fun cvs ρ2 => (callE (Φ k) cvs ρ2).bind fun l ρ3 => (evAs Φ bs ρ3).bind fun bvs ρ4 => callT (Φ j) avs l bvs ρ4
  | .callN j as t bs, ρ => (evAs Φ as ρ).bind fun avs ρ1 => (evAs Φ bs ρ1).bind fun bvs ρ4 => callT (Φ j) avs (newL t) bvs ρ4
  | .comp s t vs c e, ρ => (evE Φ (.comp s t vs c e) ρ).bind fun p ρ1 => .ok (.own p) ρ1
  | .compK i t vs c e, ρ => (evE Φ (.compK i t vs c e) ρ).bind fun p ρ1 => .ok (.own p) ρ1
  | .compO i t vs c e, ρ => (evE Φ (.compO i t vs c e) ρ).bind fun p ρ1 => .ok (.own p) ρ1
  | .mvv i, ρ => match at' ρ i with
    | some (.own p) => .ok (.own p) (ρ.set i none)
    | some (.fro p) => .ok (.fro p) ρ
    | _ => .st
  | e, ρ => (evE Φ e ρ).bind fun p ρ1 => .ok (.fro p) ρ1

/-! ### statements -/
def forL (f : PV → Env → SO) : List PV → Env → SO
  | [], ρ => .nx ρ
  | x :: xs, ρ => match f x ρ with
    | .nx ρ1 => forL f xs ρ1
    | .ct ρ1 => forL f xs ρ1
    | .bk ρ1 => .nx ρ1
    | .rt l ρ1 => .rt l ρ1
    | .ex c ρ1 => .ex c ρ1
    | .st => .st
def whlL (c : Env → ER Bool) (f : Env → SO) : Nat → Env → SO
  | 0, _ => .st
  | n + 1, ρ => match c ρ with
    | .ok true ρ1 => match f ρ1 with
      | .nx ρ2 => whlL c f n ρ2
      | .ct ρ2 => whlL c f n ρ2
      | .bk ρ2 => .nx ρ2
      | .rt l ρ2 => .rt l ρ2
      | .ex c ρ2 => .ex c ρ2
      | .st => .st
    | .ok false ρ1 => .nx ρ1
    | .ex e ρ1 => .ex e ρ1
    | .st => .st
/-- an item goes to its target, then the body -/
def bindS (f : Env → SO) (t : Tg) (x : PV) (ρ : Env) : SO := match t.bind x ρ with
  | some ρ' => f ρ'
  | none => .st
def ER.so {α : Type} (r : ER α) (f : α → Env → SO) : SO := match r with
  | .ok a ρ => f a ρ
  | .ex c ρ => .ex c ρ
  | .st => .st
@[simp] theorem ER.so_ok {α : Type} (a : α) (ρ : Env) (f : α → Env → SO) : (ER.ok a ρ).so f = f a ρ := rfl
@[simp] theorem ER.so_ex {α : Type} (c : Str) (ρ : Env) (f : α → Env → SO) : (ER.ex c ρ : ER α).so f = .ex c ρ := rfl
@[simp] theorem ER.so_st {α : Type} (f : α → Env → SO) : (ER.st : ER α).so f = .st := rfl
def SO.of (o : Option Env) : SO := match o with
  | some ρ => .nx ρ
  | none => .st
@[simp] theorem SO.of_some (ρ : Env) : SO.of (some ρ) = .nx ρ := rfl
@[simp] theorem SO.of_none : SO.of none = .st := rfl
def parE : List Nat → List PV → Env → Option Env
  | [i, j], [p, q], ρ => some ((ρ.set i (some (.fro p))).set j (some (.fro q)))
  | _, _, _ => none
variable (n : Nat)
def fsetS (i : Nat) (c : Str) (ns : List Str) (k : Nat) (l : LV) (ρ : Env) : SO := match insLs ρ i c ns with
  | some ls => if k < ls.length ∧ ns.length < 900 then .nx (ρ.set i (some (.ins c ns (ls.set k l)))) else .st
  | none => .st
def fnewS (i : Nat) (c : Str) (ns : List Str) (f : Str) (l : LV) (ρ : Env) : SO := match insLs ρ i c ns with
  | some ls => if f ∉ ns ∧ ns.length < 900 then .nx (ρ.set i (some (.ins c (ns ++ [f]) (ls ++ [l])))) else .st
  | none => .st
def fappS (i : Nat) (c : Str) (ns : List Str) (k : Nat) (q : Option PV) (ρ : Env) : SO := match insLs ρ i c ns, q with
  | some ls, some q => (match ls[k]? with
    | some (.own (.lst l)) => if l.length < LIM then .nx (ρ.set i (some (.ins c ns (ls.set k (.own (.lst (l ++ [q]))))))) else .st
    | _ => .st)
  | _, _ => .st
def fsetIxS (i : Nat) (c : Str) (ns : List Str) (k : Nat) (ix : Nat ⊕ Int) (p : PV) (ρ : Env) : SO := match insLs ρ i c ns, ixOf ρ ix with
  | some ls, some j => (match ls[k]? with
    | some (.own (.lst l)) => (match ixN l.length j with
      | some m => .nx (ρ.set i (some (.ins c ns (ls.set k (.own (.lst (l.set m p)))))))
      | none => .st)
    | _ => .st)
  | _, _ => .st
/-- the append, the instance's attributes as they were ahead of the value -/
def fappES (i : Nat) (c : Str) (ns : List Str) (k : Nat) (ls : List LV) (l : List PV) (q : PV) (ρ : Env) : SO := if l.length < LIM then .nx (ρ.set i (some (.ins c ns (ls.set k (.own (.lst (l ++ [q]))))))) else .st
def froAt (ρ : Env) (j : Nat) : Option PV := match at' ρ j with
  | some (.fro q) => some q
  | _ => none
/-- the clause's name -/
def setX (i : Option Nat) (c : Str) (ρ : Env) : Env := match i with
  | some i => ρ.set i (some (.fro (.exc c)))
  | none => ρ
def goneX (i : Option Nat) (ρ : Env) : Env := match i with
  | some i => ρ.set i none
  | none => ρ
/-- behind a walk over a dict that was ours -/
def lockR (i : Nat) (l : LV) (r : SO) : SO := match r with
  | .nx ρ => .nx ((thin ρ).set i (some l))
  | .rt v ρ => match thinL v with
    | some w => .rt w ((thin ρ).set i (some l))
    | none => .st
  | _ => .st
/-- an except suite's end -/
def suiteX (i : Option Nat) (r : SO) : SO := match r with
  | .nx ρ => .nx (goneX i ρ)
  | .bk ρ => .bk (goneX i ρ)
  | .ct ρ => .ct (goneX i ρ)
  | .rt l ρ => .rt l ρ
  | _ => .st
/-- what stands behind a try's body -/
def tryK (x : Str) (i : Option Nat) (kn : List Str) (f : Env → SO) (r : SO) : SO := match r with
  | .ex c ρ => if c ∈ kn ∧ x ∈ ("BrimError" : Str) :: kn then (if subX c x = true then suiteX i (f (setX i c ρ)) else .ex c ρ) else .st
  | r => r
mutual
def exS : St → Env → SO
  | .set i e, ρ => (evL Φ e ρ).so fun l ρ1 => .nx (ρ1.set i (some l))
  | .unp t e, ρ => (evE Φ e ρ).so fun p ρ1 => SO.of (t.bind p ρ1)
  | .par is es, ρ => (evEs Φ es ρ).so fun ps ρ1 => SO.of (parE is ps ρ1)
  | .setIx i k e, ρ => (evE Φ e ρ).so fun p ρ1 => if (at' ρ1 i).isSome = true then (evE Φ k ρ1).so fun q ρ2 => (match (at' ρ2 i).bind fun l => setIxP l q p with
    | some l => .nx (ρ2.set i (some l))
    | none => .st) else .st
  | .app i e, ρ => if ownL ρ i = true then (evE Φ e ρ).so fun p ρ1 => (match at' ρ1 i with
    | some (.own (.lst l)) => if l.length < LIM then .nx (ρ1.set i (some (.own (.lst (l ++ [p]))))) else .st
    | _ => .st) else .st
  | .ext i e, ρ => if ownL ρ i = true then (evE Φ e ρ).so fun p ρ1 => (match at' ρ1 i, p with
    | some (.own (.lst l)), .lst m => if l.length + m.length ≤ LIM then .nx (ρ1.set i (some (.own (.lst (l ++ m))))) else .st
    | _, _ => .st) else .st
  | .popA i e, ρ => if ownL ρ i = true then (evE Φ e ρ).so fun p ρ1 => (match at' ρ1 i, p with
    | some (.own (.lst l)), .int j => if 0 ≤ j ∧ j < l.length ∧ j < LIM then .nx (ρ1.set i (some (.own (.lst (l.eraseIdx j.toNat))))) else .st
    | _, _ => .st) else .st
  | .insA i k e, ρ => if ownL ρ i = true then (evE Φ k ρ).so fun q ρ1 => (evE Φ e ρ1).so fun p ρ2 => (match at' ρ2 i, q with
    | some (.own (.lst l)), .int j => if l.length < LIM ∧ 0 ≤ j ∧ j < LIM then .nx (ρ2.set i (some (.own (.lst (l.take j.toNat ++ p :: l.drop j.toNat))))) else .st
    | _, _ => .st) else .st
  | .fset i c ns k e, ρ => (evL Φ e ρ).so fun l ρ1 => fsetS i c ns k l ρ1
  | .fnew i c ns f e, ρ => (evL Φ e ρ).so fun l ρ1 => fnewS i c ns f l ρ1
  | .fsetIx i c ns k ix e, ρ => (evE Φ e ρ).so fun p ρ1 => fsetIxS i c ns k ix p ρ1
  | .fappE i c ns k e, ρ => match insLs ρ i c ns with
    | some ls => match ls[k]? with
      | some (.own (.lst l)) => (evE Φ e (ρ.set i none)).calm.so fun q ρ1 => fappES i c ns k ls l q ρ1
      | _ => .st
    | _ => .st
  | .fappV i c ns k j, ρ => fappS i c ns k (froAt ρ j) ρ
  | .fappT i c ns k g, ρ => fappS i c ns k ((fldO .sorted ((insLs ρ i c ns).bind fun ls => ls[g]?)).bind fun r => opX .tuple1 [r]) ρ
  | .ex e, ρ => (evE Φ e ρ).so fun _ ρ1 => .nx ρ1
  | .ret e, ρ => (evL Φ e ρ).so fun l ρ1 => .rt l ρ1
  | .retV i, ρ => match at' ρ i with
    | some l => .rt l (ρ.set i none)
    | none => .st
  | .retN, ρ => .rt (.fro .non) ρ
  | .ite c a b, ρ => (evT Φ c ρ).so fun t ρ1 => if t = true then exSs a ρ1 else exSs b ρ1
  | .whl c b, ρ => whlL (evT Φ c) (exSs b) n ρ
  | .for s t b, ρ => match s with
    | .lock i it => match at' ρ i with
      | some (.own (.dK ks vs)) => lockR i (.own (.dK ks vs)) (forL (bindS (exSs b) t) (if it = true then itemsP ks vs else keysP ks) (ρ.set i (some (.fro (.dK ks vs)))))
      | _ => .st
    | s => (evSrc Φ s ρ).so fun xs ρ1 => forL (bindS (exSs b) t) xs ρ1
  | .brk, ρ => .bk ρ
  | .cont, ρ => .ct ρ
  | .pass, ρ => .nx ρ
  | .raise c, ρ => .ex c ρ
  | .tryx b x i kn s, ρ => tryK x i kn (exSs s) (exSs b ρ)
def exSs : List St → Env → SO
  | [], ρ => .nx ρ
  | s :: ss, ρ => match exS s ρ with
    | .nx ρ1 => exSs ss ρ1
    | r => r
end
end

/-- a def: how many names, how many parameters, its body -/
structure Fn where
  nn : Nat
  np : Nat
  io : List Nat
  body : List St
/-- what is handed on to be written stands at the places that say so -/
def ioOk (io : List Nat) : Nat → List LV → Bool
  | _, [] => true
  | k, .fro _ :: ls => ioOk io (k + 1) ls
  | k, _ :: ls => decide (k ∈ io) && ioOk io (k + 1) ls
def frameOf (f : Fn) (ls : List LV) : Env := ls.map some ++ List.replicate (f.nn - ls.length) none
def lvsOf (ρ : Env) : Nat → Option (List LV)
  | 0 => some []
  | k + 1 => match ρ with
    | some l :: ρ' => (lvsOf ρ' k).map (l :: ·)
    | _ => none
def runFn (Φ : Nat → List LV → CR) (n : Nat) (f : Fn) (ls : List LV) : CR := if ls.length = f.np ∧ f.np ≤ f.nn ∧ ioOk f.io 0 ls = true then match exSs Φ n f.body (frameOf f ls) with
    | .nx ρ => match lvsOf ρ f.np with
      | some as => .ok (.fro .non) as
      | none => .st
    | .rt l ρ => match lvsOf ρ f.np with
      | some as => .ok l as
      | none => .st
    | .ex c ρ => match lvsOf ρ f.np with
      | some as => .ex c as
      | none => .st
    | _ => .st
  else .st
end Br
/-! BrC: what the terms' outcomes say of the model: readings; operations. -/
namespace Br
open PySem PySem.Spec PyProof.Rows L2

/-! ### readings -/
def Post {α : Type} (C : Cb) (W : WX) (σ : L2.St) (F : Hp) (r : ER α) (k : α → Env → Hp → Hp → Prop) : Prop := match r with
  | .ok a ρ => ∀ F' H', Same F F' → SR C F' ρ σ H' → k a ρ F' H'
  | .ex c ρ => ∀ F' H', Same F F' → SR C F' ρ σ H' → W (.ref (He.ga C.K c)) none σ H'
  | .st => False
section
variable {C : Cb} {W : WX} {σ : L2.St} {F F1 H : Hp} {ρ : Env} {α β : Type}
theorem Post.mono {r : ER α} {k : α → Env → Hp → Hp → Prop} (h : Post C W σ F r k) (e : Same F F1) : Post C W σ F1 r k := by
  cases r with
  | ok a ρ => exact fun F' H' e' s => h F' H' (e.trans e') s
  | ex c ρ => exact fun F' H' e' s => h F' H' (e.trans e') s
  | st => exact h
theorem Post.imp {r : ER α} {k k' : α → Env → Hp → Hp → Prop} (h : Post C W σ F r k) (i : ∀ a ρ F' H', Same F F' → SR C F' ρ σ H' → k a ρ F' H' → k' a ρ F' H') : Post C W σ F r k' := by
  cases r with
  | ok a ρ => exact fun F' H' e' s => i _ _ _ _ e' s (h F' H' e' s)
  | ex c ρ => exact fun F' H' e' s => h F' H' e' s
  | st => exact h
theorem Post.bind {r : ER α} {f : α → Env → ER β} {k : β → Env → Hp → Hp → Prop} (h : Post C W σ F (r.bind f) k) : Post C W σ F r fun a ρ1 F1 _ => Post C W σ F1 (f a ρ1) k := by
  cases r with
  | ok a ρ => exact fun F' H' e' s => h.mono e'
  | ex c ρ => exact fun F' H' e' s => h F' H' e' s
  | st => exact h
theorem Post.of {o : Option α} {k : α → Env → Hp → Hp → Prop} (h : Post C W σ F (ER.of o ρ) k) : ∃ a, o = some a ∧ ∀ F' H', Same F F' → SR C F' ρ σ H' → k a ρ F' H' := by
  cases o with
  | none => exact False.elim h
  | some a => exact ⟨a, rfl, h⟩
end

/-- an argument's value -/
def AVR (K : PySem.W.Frag) (F : Hp) (σ : L2.St) : AV → V → Prop
  | .val p, v => Rep K F p v
  | .ref i, v => σ[i]? = some (some v)
def AVRs (K : PySem.W.Frag) (F : Hp) (σ : L2.St) : List AV → List V → Prop
  | [], vs => vs = []
  | a :: as, vs => ∃ v r, vs = v :: r ∧ AVR K F σ a v ∧ AVRs K F σ as r
theorem AVR.mono {K : PySem.W.Frag} {F F' : Hp} {σ : L2.St} (e : Same F F') : ∀ {a : AV} {v : V}, AVR K F σ a v → AVR K F' σ a v
  | .val _, _, h => Rep.mono e h
  | .ref _, _, h => h
theorem AVRs.mono {K : PySem.W.Frag} {F F' : Hp} {σ : L2.St} (e : Same F F') : ∀ {as : List AV} {vs : List V}, AVRs K F σ as vs → AVRs K F' σ as vs
  | [], _, h => h
  | a :: as, _, h => by
    obtain ⟨v, r, h1, h2, h3⟩ := h
    exact ⟨v, r, h1, h2.mono e, AVRs.mono e h3⟩
theorem AVRs.length {K : PySem.W.Frag} {F : Hp} {σ : L2.St} : ∀ {as : List AV} {vs : List V}, AVRs K F σ as vs → as.length = vs.length
  | [], _, h => by rw [show _ = [] from h]; rfl
  | a :: as, _, h => by
    obtain ⟨v, r, rfl, h2, h3⟩ := h
    simp [h3.length]

/-- a value at hand: its object may be our own, its items are frozen -/
def RepR (K : PySem.W.Frag) (F H : Hp) (p : PV) (v : V) : Prop := match p with
  | .lst l => ∃ a xs, v = .ref a ∧ SqE K H a xs ∧ Reps K F l xs
  | .dK ks l => ∃ a xs, v = .ref a ∧ Rd H a (.dK (ks.zip xs)) ∧ ks.length = xs.length ∧ ks.Nodup ∧ Reps K F l xs
  | .dT ks l => ∃ a xs, v = .ref a ∧ Rd H a (.dT (ks.zip xs)) ∧ ks.length = xs.length ∧ ks.Nodup ∧ Reps K F l xs
  | .dX ks l => ∃ (a : Addr) (bs : List Addr) (xs : List V), v = .ref a ∧ Rd H a (dxO a ((ks.map PV.kq).zip (bs.zip xs))) ∧ ks.length = bs.length ∧ ks.length = xs.length ∧ ks.all PV.kok = true ∧ (ks.map PV.kq).Nodup ∧ Reps K F ks (bs.map V.ref) ∧ Reps K F l xs
  | p => Rep K F p v
def RepRs (K : PySem.W.Frag) (F H : Hp) : List PV → List V → Prop
  | [], vs => vs = []
  | p :: ps, vs => ∃ v r, vs = v :: r ∧ RepR K F H p v ∧ RepRs K F H ps r
/-- .. a tuple may be any tuple -/
def RepB (K : PySem.W.Frag) (F H : Hp) (p : PV) (v : V) : Prop := match p with
  | .tup l => ∃ a xs, v = .ref a ∧ SqT K F a xs ∧ Reps K F l xs
  | p => RepR K F H p v
def RepBs (K : PySem.W.Frag) (F H : Hp) : List PV → List V → Prop
  | [], vs => vs = []
  | p :: ps, vs => ∃ v r, vs = v :: r ∧ RepB K F H p v ∧ RepBs K F H ps r
def RepO (K : PySem.W.Frag) (F H : Hp) (b : Bool) (ps : List PV) (vs : List V) : Prop := match b with
  | true => RepRs K F H ps vs
  | false => RepBs K F H ps vs
section
variable {K : PySem.W.Frag} {F F' H H' : Hp}
theorem Rep.b (e : Same F H) {p : PV} {v : V} (h : Rep K F p v) : RepR K F H p v := by
  cases p with
  | lst l => obtain ⟨a, xs, h1, h2, h3⟩ := h; exact ⟨a, xs, h1, Same.sqe e h2, h3⟩
  | dK ks l => obtain ⟨a, xs, h1, h2, h3⟩ := h; exact ⟨a, xs, h1, Rdm e h2, h3⟩
  | dT ks l => obtain ⟨a, xs, h1, h2, h3⟩ := h; exact ⟨a, xs, h1, Rdm e h2, h3⟩
  | dX ks l => obtain ⟨a, bs, xs, h1, h2, h3⟩ := h; exact ⟨a, bs, xs, h1, Rdm e h2, h3⟩
  | _ => exact h
theorem OwnAt.b {p : PV} {a : Addr} (h : OwnAt K F H a p) : RepR K F H p (.ref a) := by
  cases p with
  | lst l => obtain ⟨xs, h1, h2⟩ := h; exact ⟨a, xs, rfl, .inl (.inl h1), h2⟩
  | dK ks l => obtain ⟨xs, h1, h2⟩ := h; exact ⟨a, xs, rfl, .inl h1, h2⟩
  | dT ks l => obtain ⟨xs, h1, h2⟩ := h; exact ⟨a, xs, rfl, .inl h1, h2⟩
  | dX ks l => obtain ⟨bs, xs, h1, h2⟩ := h; exact ⟨a, bs, xs, rfl, .inl h1, h2⟩
  | _ => exact False.elim h
theorem RepR.dn {p : PV} {v : V} (h : RepR K F H p v) : RepB K F H (PV.dn p) v := by
  cases p with
  | xt l => obtain ⟨a, xs, o, h1, h2, h3, h4⟩ := h; exact ⟨a, xs, h1, .inl (.inr ⟨o, h2⟩), h4⟩
  | tup l => obtain ⟨a, xs, h1, h2, h3⟩ := h; exact ⟨a, xs, h1, .inl (.inl h2), h3⟩
  | _ => exact h
theorem RepRs.dn : ∀ {ps : List PV} {vs : List V}, RepRs K F H ps vs → RepBs K F H (ps.map PV.dn) vs
  | [], _, h => h
  | p :: ps, _, h => by
    obtain ⟨v, r, h1, h2, h3⟩ := h
    exact ⟨v, r, h1, h2.dn, RepRs.dn h3⟩
theorem RepR.toB {p : PV} {v : V} (h : RepR K F H p v) : RepB K F H p v := by
  cases p with
  | tup l => obtain ⟨a, xs, h1, h2, h3⟩ := h; exact ⟨a, xs, h1, .inl (.inl h2), h3⟩
  | _ => exact h
theorem RepRs.toB : ∀ {ps : List PV} {vs : List V}, RepRs K F H ps vs → RepBs K F H ps vs
  | [], _, h => h
  | p :: ps, _, h => by
    obtain ⟨v, r, h1, h2, h3⟩ := h
    exact ⟨v, r, h1, h2.toB, RepRs.toB h3⟩
theorem RepRs.toO {b : Bool} {ps : List PV} {vs : List V} (h : RepRs K F H ps vs) : RepO K F H b ps vs := by
  cases b with
  | true => exact h
  | false => exact h.toB
/-- as data read off H -/
theorem RepB.rep (e : Same F H) {p : PV} {v : V} (h : RepB K F H p v) : RepA K H p v := by
  cases p with
  | lst l => obtain ⟨a, xs, h1, h2, h3⟩ := h; exact ⟨a, xs, h1, h2, h3.mono e⟩
  | dK ks l => obtain ⟨a, xs, h1, h2, h3, h4, h5⟩ := h; exact ⟨a, xs, h1, h2, h3, h4, h5.mono e⟩
  | dT ks l => obtain ⟨a, xs, h1, h2, h3, h4, h5⟩ := h; exact ⟨a, xs, h1, h2, h3, h4, h5.mono e⟩
  | dX ks l => obtain ⟨a, bs, xs, h1, h2, h3, h4, h5, h6, h7, h8⟩ := h; exact ⟨a, bs, xs, h1, h2, h3, h4, h5, h6, h7.mono e, h8.mono e⟩
  | tup l => obtain ⟨a, xs, h1, h2, h3⟩ := h; exact ⟨a, xs, h1, Same.sqt e h2, h3.mono e⟩
  | _ => exact Rep.mono e h
end
/-- what an operation tells: something there, or a new object -/
def ResR (K : PySem.W.Frag) (F H : Hp) (nw : Bool) (r : PV) (v : V) (H' : Hp) : Prop :=
  (H' = H ∧ Rep K F r v ∧ (nw = true → r.loose = true)) ∨ (∃ a o, H a = none ∧ v = .ref a ∧ H' = upd H a o ∧ OwnAt K F H' a r) ∨ (∃ a xs l, H a = none ∧ v = .ref a ∧ r = .tup l ∧ H' = upd H a (.tup xs) ∧ Reps K F l xs) ∨ (∃ a xs o l, H a = none ∧ v = .ref a ∧ r = .xt l ∧ o.dict = none ∧ H' = upd H a (.frz o (.tup xs)) ∧ Reps K F l xs) ∨ (∃ a ys l, H a = none ∧ v = .ref a ∧ r = .lst l ∧ H' = upd H a (.lst ys) ∧ l.all PV.keyTup = true ∧ Reps K H l ys) ∨ ∃ a o c, H a = none ∧ v = .ref a ∧ r = .exc c ∧ H' = upd H a o ∧ ∀ F' : Hp, F' a = some o → ExcR K F' c (.ref a)
/-- an operation's reading -/
def rOp (K : PySem.W.Frag) (o : Op) (vs : List V) (H : Hp) (Q : VK) : Prop := ∃ F ps r, Same F H ∧ RepO K F H o.raw ps vs ∧ opSem o ps = some r ∧ ∀ v H', ResR K F H o.new r v H' → Q v H'

section
variable {C : Cb} {W : WX} {σ : L2.St} {F F1 H : Hp} {ρ : Env}
theorem AVR.b (s : SR C F ρ σ H) {a : AV} {v : V} {p : PV} (h : AVR C.K F σ a v) (e : a.pv ρ = some p) : RepR C.K F H p v := by
  cases a with
  | val q =>
    cases e
    exact Rep.b s.le h
  | ref i =>
    have h' : σ[i]? = some (some v) := h
    unfold AV.pv at e
    dsimp only at e
    split at e
    · rename_i l hl
      cases l with
      | fro q =>
        cases e
        obtain ⟨w, hw, r⟩ := s.fro hl
        rw [h'] at hw
        cases hw
        exact Rep.b s.le r
      | own q =>
        cases e
        obtain ⟨a, hw, r, _⟩ := s.ownAt hl
        rw [h'] at hw
        cases hw
        exact r.b
      | ins c ns ls => cases e
    · cases e
theorem AVRs.b (s : SR C F ρ σ H) : ∀ {as : List AV} {vs : List V} {ps : List PV}, AVRs C.K F σ as vs → AV.pvs ρ as = some ps → RepRs C.K F H ps vs
  | [], vs, ps, h, e => by
    cases e
    exact h
  | a :: as, vs, ps, h, e => by
    obtain ⟨v, r, rfl, h2, h3⟩ := h
    unfold AV.pvs at e
    split at e
    · rename_i p qs e1 e2
      cases e
      exact ⟨v, r, rfl, h2.b s e1, AVRs.b s h3 e2⟩
    · cases e
theorem reps_flat {K : PySem.W.Frag} {F F' : Hp} : ∀ {l : List PV} {xs : List V}, l.all PV.flat = true → Reps K F l xs → Reps K F' l xs
  | [], _, _, h => h
  | p :: l, _, hf, h => by
    rw [List.all_cons, Bool.and_eq_true] at hf
    obtain ⟨x, r, rfl, h1, h2⟩ := h
    refine ⟨x, r, rfl, ?_, reps_flat hf.2 h2⟩
    cases p with
    | int i => exact h1
    | str i => exact h1
    | _ => cases hf.1
/-- tuples that are keys are frozen -/
theorem SR.freezeR : ∀ {l : List PV} {ys : List V} {F : Hp}, SR C F ρ σ H → l.all PV.keyTup = true → Reps C.K H l ys → ∃ F', Same F F' ∧ SR C F' ρ σ H ∧ Reps C.K F' l ys
  | [], ys, F, s, _, h => ⟨F, Same.refl F, s, h⟩
  | p :: l, _, F, s, hf, h => by
    rw [List.all_cons, Bool.and_eq_true] at hf
    obtain ⟨x, r, rfl, h1, h2⟩ := h
    cases p with
    | tup m =>
      obtain ⟨b, xs, rfl, hb, hx⟩ := h1
      obtain ⟨F1, e1, s1, f1⟩ := s.freezeT hb
      obtain ⟨F2, e2, s2, r2⟩ := SR.freezeR s1 hf.2 h2
      exact ⟨F2, e1.trans e2, s2, .cons ⟨b, xs, rfl, e2 _ _ f1, reps_flat hf.1 hx⟩ r2⟩
    | _ => cases hf.1
/-- what was told is frozen -/
theorem ResR.fro (s : SR C F ρ σ H) {nw : Bool} {r : PV} {v : V} {H' : Hp} (h : ResR C.K F H nw r v H') : ∃ F', Same F F' ∧ SR C F' ρ σ H' ∧ Rep C.K F' r v := by
  rcases h with ⟨rfl, h, _⟩ | ⟨a, o, n, rfl, rfl, h⟩ | ⟨a, xs, l, n, rfl, rfl, rfl, h⟩ | ⟨a, xs, o, l, n, rfl, rfl, hd, rfl, h⟩ | ⟨a, ys, l, n, rfl, rfl, rfl, hk, h⟩ | ⟨a, o, c, n, rfl, rfl, rfl, h⟩
  rotate_left 5
  · have e : Same F (upd F a o) := same_updF (s.fnone n)
    exact ⟨_, e, s.alloc n o, h _ upd_same⟩
  rotate_left 4
  · obtain ⟨F1, e1, s1, r1⟩ := s.freezeR hk h
    obtain ⟨F2, e2, s2, r2⟩ := (s1.pushNew (p := .lst l) n ⟨ys, upd_same, r1⟩).popOwn
    exact ⟨F2, e1.trans e2, s2, r2⟩
  rotate_left 3
  · have e : Same F (upd F a (.frz o (.tup xs))) := same_updF (s.fnone n)
    exact ⟨_, e, s.alloc n _, a, xs, o, rfl, upd_same, hd, h.mono e⟩
  · exact ⟨F, Same.refl F, s, h⟩
  · have s1 := s.pushNew n h
    exact s1.popOwn
  · have e : Same F (upd F a (.tup xs)) := same_updF (s.fnone n)
    exact ⟨_, e, s.alloc n _, a, xs, rfl, upd_same, h.mono e⟩
/-- .. or kept as our own -/
theorem ResR.own (s : SR C F ρ σ H) {r : PV} {v : V} {H' : Hp} (h : ResR C.K F H true r v H') : ∃ F', Same F F' ∧ SR C F' (some (match r with
      | .lst l => .own (.lst l)
      | .dK ks l => .own (.dK ks l)
      | .dT ks l => .own (.dT ks l)
      | .dX ks l => .own (.dX ks l)
      | p => .fro p) :: ρ) (some v :: σ) H' := by
  rcases h with ⟨rfl, h, hn⟩ | ⟨a, o, n, rfl, rfl, h⟩ | ⟨a, xs, l, n, rfl, rfl, rfl, h⟩ | ⟨a, xs, o, l, n, rfl, rfl, hd, rfl, h⟩ | ⟨a, ys, l, n, rfl, rfl, rfl, hk, h⟩ | ⟨a, o, c, n, rfl, rfl, rfl, h⟩
  rotate_left 5
  · have e : Same F (upd F a o) := same_updF (s.fnone n)
    exact ⟨_, e, (s.alloc n o).push (p := .exc c) (h _ upd_same)⟩
  rotate_left 4
  · obtain ⟨F1, e1, s1, r1⟩ := s.freezeR hk h
    exact ⟨F1, e1, s1.pushNew n ⟨ys, upd_same, r1⟩⟩
  rotate_left 3
  · have e : Same F (upd F a (.frz o (.tup xs))) := same_updF (s.fnone n)
    exact ⟨_, e, (s.alloc n _).push ⟨a, xs, o, rfl, upd_same, hd, h.mono e⟩⟩
  · refine ⟨F, Same.refl F, ?_⟩
    have hn := hn rfl
    cases r with
    | lst l => cases hn
    | dK ks l => cases hn
    | dT ks l => cases hn
    | dX ks l => cases hn
    | _ => exact s.push h
  · cases r with
    | lst l => exact ⟨F, Same.refl F, s.pushNew n h⟩
    | dK ks l => exact ⟨F, Same.refl F, s.pushNew n h⟩
    | dT ks l => exact ⟨F, Same.refl F, s.pushNew n h⟩
    | dX ks l => exact ⟨F, Same.refl F, s.pushNew n h⟩
    | _ => exact False.elim h
  · have e : Same F (upd F a (.tup xs)) := same_updF (s.fnone n)
    exact ⟨_, e, (s.alloc n _).push ⟨a, xs, rfl, upd_same, h.mono e⟩⟩
end

theorem opX_sem {K : PySem.W.Frag} {F H : Hp} {o : Op} {ps : List PV} {vs : List V} {r : PV} (h : RepRs K F H ps vs) (e : opX o ps = some r) : ∃ ps', RepO K F H o.raw ps' vs ∧ opSem o ps' = some r := by
  unfold opX at e
  by_cases hr : o.raw = true
  · rw [if_pos hr] at e; rw [hr]; exact ⟨ps, h, e⟩
  · rw [if_neg hr] at e
    have hr2 : o.raw = false := by cases z : o.raw with | true => exact absurd z hr | false => rfl
    rw [hr2]
    exact ⟨_, h.dn, e⟩
/-! ### the readings of terms -/
section
variable (C : Cb) (Φ : Nat → List LV → CR) (W : WX)
def tE (e : Ex) : TE := fun σ H Q => ∃ ρ F, SR C F ρ σ H ∧ Post C W σ F (evE Φ e ρ) fun p _ F' H' => ∀ v, Rep C.K F' p v → Q v H'
/-- one argument -/
def tA1 (e : Arg) : TE := fun σ H Q => ∃ ρ F, SR C F ρ σ H ∧ Post C W σ F (evA Φ e ρ) fun a _ F' H' => ∀ v, AVR C.K F' σ a v → Q v H'
def tAs (es : List Arg) : TA := fun σ H Q => ∃ ρ F, SR C F ρ σ H ∧ Post C W σ F (evAs Φ es ρ) fun as _ F' H' => ∀ vs, AVRs C.K F' σ as vs → Q vs H'
def tEs (es : List Ex) : TA := fun σ H Q => ∃ ρ F, SR C F ρ σ H ∧ Post C W σ F (evEs Φ es ρ) fun ps _ F' H' => ∀ vs, Reps C.K F' ps vs → Q vs H'
def tT (c : Tst) : TT := fun σ H Q => ∃ ρ F, SR C F ρ σ H ∧ Post C W σ F (evT Φ c ρ) fun b _ _ H' => Q b H'
end

theorem _root_.L2.PE.weak {X : Cx} {e : Expr} {t t' : TE} (h : PE X e t) (i : ∀ σ H Q, t' σ H Q → t σ H Q) : PE X e t' := ⟨fun pins s σ H Q I q => h.run pins s σ H Q I (i σ H Q q)⟩
theorem _root_.L2.PT.weak {X : Cx} {e : Expr} {t t' : TT} (h : PT X e t) (i : ∀ σ H Q, t' σ H Q → t σ H Q) : PT X e t' := ⟨fun pins s σ H Q I q => h.run pins s σ H Q I (i σ H Q q)⟩
theorem _root_.L2.PW.weak {X : Cx} {e : Expr} {t t' : TT} (h : PW X e t) (i : ∀ σ H Q, t' σ H Q → t σ H Q) : PW X e t' := ⟨fun wh pins s σ H Q I q => h.run wh pins s σ H Q I (i σ H Q q)⟩
theorem _root_.L2.PA.weak {X : Cx} {e : List Expr} {t t' : TA} (h : PA X e t) (i : ∀ σ H Q, t' σ H Q → t σ H Q) : PA X e t' := ⟨fun pos pins s σ H Q I q => h.run pos pins s σ H Q I (i σ H Q q)⟩
theorem _root_.L2.PS.weak {X : Cx} {e : Stmt} {t t' : TS} (h : PS X e t) (i : ∀ D σ H, t' D σ H → t D σ H) : PS X e t' := ⟨fun pins s σ H D I q => h.run pins s σ H D I (i D σ H q)⟩
theorem _root_.L2.PSs.weak {X : Cx} {e : List Stmt} {t t' : TS} (h : PSs X e t) (i : ∀ D σ H, t' D σ H → t D σ H) : PSs X e t' := ⟨fun pins s σ H D I q => h.run pins s σ H D I (i D σ H q)⟩
theorem _root_.L2.PI.weak {X : Cx} {tg e : Expr} {t t' : TI} (h : PI X tg e t) (i : ∀ σ H Q, t' σ H Q → t σ H Q) : PI X tg e t' := ⟨fun pins s σ H Q I q => h.run pins s σ H Q I (i σ H Q q)⟩

section
variable {C : Cb} {Φ : Nat → List LV → CR} {W : WX} {X : Cx}
/-- from a value to an argument -/
theorem tA1_of {e : Ex} {σ : L2.St} {H : Hp} {Q : VK} (q : tA1 C Φ W (.val e) σ H Q) : tE C Φ W e σ H Q := by
  obtain ⟨ρ, F, s, p⟩ := q
  refine ⟨ρ, F, s, ?_⟩
  unfold evA at p
  exact p.bind.imp fun a ρ1 F1 H1 e1 s1 k v r => k F1 H1 (Same.refl F1) s1 v r
theorem tA1_var {i : Nat} {σ : L2.St} {H : Hp} {Q : VK} (q : tA1 C Φ W (.ref i) σ H Q) : tVar i σ H Q := by
  obtain ⟨ρ, F, s, p⟩ := q
  unfold evA at p
  split at p
  · rename_i r hr
    obtain ⟨v, hv, rv⟩ := s.fro hr
    exact ⟨v, hv, p F H (Same.refl F) s v rv⟩
  · rename_i l hl hr
    obtain ⟨v, fp, hv, rv⟩ := s.get hr
    exact ⟨v, hv, p F H (Same.refl F) s v hv⟩
  · exact False.elim p
theorem tE_var {i : Nat} {σ : L2.St} {H : Hp} {Q : VK} (q : tE C Φ W (.var i) σ H Q) : tVar i σ H Q := by
  obtain ⟨ρ, F, s, p⟩ := q
  unfold evE at p
  split at p
  · rename_i r hr
    obtain ⟨v, hv, rv⟩ := s.fro hr
    exact ⟨v, hv, p F H (Same.refl F) s v rv⟩
  · rename_i r hr
    obtain ⟨a, F', hv, e, s', rv⟩ := s.freeze hr
    exact ⟨_, hv, p F' H e s' _ rv⟩
  · exact False.elim p
theorem tAs_nil {σ : L2.St} {H : Hp} {Q : List V → Hp → Prop} (q : tAs C Φ W [] σ H Q) : tNil σ H Q := by
  obtain ⟨ρ, F, s, p⟩ := q
  unfold evAs at p
  exact p F H (Same.refl F) s [] rfl
theorem tAs_cons {e : Arg} {es : List Arg} {σ : L2.St} {H : Hp} {Q : List V → Hp → Prop} (q : tAs C Φ W (e :: es) σ H Q) : tCons (tA1 C Φ W e) (tAs C Φ W es) σ H Q := by
  obtain ⟨ρ, F, s, p⟩ := q
  unfold evAs at p
  refine ⟨ρ, F, s, p.bind.imp fun a ρ1 F1 H1 e1 s1 k v r => ⟨ρ1, F1, s1, k.bind.imp fun as ρ2 F2 H2 e2 s2 k2 vs rs => ?_⟩⟩
  exact k2 F2 H2 (Same.refl F2) s2 (v :: vs) ⟨v, vs, rfl, r.mono e2, rs⟩
theorem tEs_nil {σ : L2.St} {H : Hp} {Q : List V → Hp → Prop} (q : tEs C Φ W [] σ H Q) : tNil σ H Q := by
  obtain ⟨ρ, F, s, p⟩ := q
  unfold evEs at p
  exact p F H (Same.refl F) s [] rfl
theorem tEs_cons {e : Ex} {es : List Ex} {σ : L2.St} {H : Hp} {Q : List V → Hp → Prop} (q : tEs C Φ W (e :: es) σ H Q) : tCons (tE C Φ W e) (tEs C Φ W es) σ H Q := by
  obtain ⟨ρ, F, s, p⟩ := q
  unfold evEs at p
  refine ⟨ρ, F, s, p.bind.imp fun a ρ1 F1 H1 e1 s1 k v r => ⟨ρ1, F1, s1, k.bind.imp fun as ρ2 F2 H2 e2 s2 k2 vs rs => ?_⟩⟩
  exact k2 F2 H2 (Same.refl F2) s2 (v :: vs) (.cons (r.mono e2) rs)
/-- an operation's arguments, then its reading -/
theorem tE_app {o : Op} {es : List Arg} {σ : L2.St} {H : Hp} {Q : VK} (q : tE C Φ W (.app o es) σ H Q) : tAs C Φ W es σ H fun vs H1 => rOp C.K o vs H1 Q := by
  obtain ⟨ρ, F, s, p⟩ := q
  unfold evE at p
  refine ⟨ρ, F, s, p.bind.imp fun as ρ1 F1 H1 e1 s1 k vs r => ?_⟩
  obtain ⟨x, hx, k⟩ := k.of
  obtain ⟨ps, h1, h2⟩ := Option.bind_eq_some_iff.mp hx
  obtain ⟨ps', hb, h2'⟩ := opX_sem (r.b s1 h1) h2
  refine ⟨F1, ps', x, s1.le, hb, h2', fun v H2 h3 => ?_⟩
  obtain ⟨F3, e3, s3, r3⟩ := h3.fro s1
  exact k F3 H2 e3 s3 v r3
end
end Br
set_option maxHeartbeats 1000000
/-! BrDk: == of two dicts of ints, and of None and a dict. -/
namespace Br
open PySem PySem.Spec PyProof.Rows L2 PySem.SeqAt
section
variable {P : Program} {w : World} {A : Around} {E : Value → Shared → Prop} {s : Shared}
theorem rc_none_dict {K : Type} [DecidableEq K] {knd : KeyKind P w K} {b : Addr} {kb : List (K × Value)} {Q : Value → Shared → Prop} (db : s.heap.DictOf knd b kb) (hu : A.units < cLine) (h : Q (.bool false) s) :
    wpAny (model P w) A (richCompare .Eq .none (.ref b)) Q E s := by
  refine rc_eq_decline_or (k := false) rfl db.typeIs (by decide) PySem.F.sub_dict_NoneType PySem.F.slot_NoneType_eq PySem.F.slot_dict_eq_refl
    (fun _ hq => call_gives PySem.F.slot_NoneType_eq rfl PySem.F.entry_NoneType_eq (PySem.F.args_NoneType_eq_2 _ _) (NoneType___eq___none_ref_0 b) hq)
    (fun Q' hq => wpAny_call_entry PySem.F.slot_dict_eq_refl db.typeIs PySem.F.entry_dict_eq ?_ (PySem.F.args_dict_eq_2 _ _))
    (fun _ hq => wpAny_of_eq (rfl : isSame .none (.ref b) = pure false) hq) (.inr hu) h
  show wpAny _ _ (Builtin.Dict.dictSlotArgs "__eq__" ⟨[.ref b, .none], []⟩ >>= _) _ _ s
  refine wpAny_bind ?_
  unfold Builtin.Dict.dictSlotArgs
  refine wpAny_bind (wpAny_notOrdered_dict db.typeIs ?_)
  show wpAny _ _ (pure (Value.ref b, Value.none)) _ _ s
  refine wpAny_pure ?_
  refine wpAny_bind (wpAny_isInstance (T := "NoneType") rfl PySem.F.sub_NoneType_dict ?_)
  simp only [Bool.not_false, if_true]
  exact wpAny_bind (wpAny_rule (wpAny_pure ⟨_, rfl, hq⟩))
end
/-- the number at a key -/
theorem iAt_val {κ : Type} [DecidableEq κ] {k : κ} : ∀ (ks : List κ) (ns : List Int), valV (ks.zip (ns.map V.int)) k = (iAt k ks ns).map V.int
  | [], _ => rfl
  | c :: ks, [] => rfl
  | c :: ks, n :: ns => by
    rw [List.map_cons, List.zip_cons_cons]
    unfold iAt valV
    rw [List.find?_cons]
    by_cases e : k = c
    · subst e
      simp
    · have e' : ¬ c = k := fun z => e z.symm
      simp only [e, e', if_false, decide_false]
      exact iAt_val ks ns
theorem hitsI {P : Program} {w : World} {A : Around} {s : Shared} {qs : List Key} {ms : List Int} {kb : List (Key × Value)} (rb : KV (qs.zip (ms.map V.int)) kb) :
    ∀ {ks : List Key} {ns : List Int} {ka : List (Key × Value)} (e : Key → Option Int), KV (ks.zip (ns.map V.int)) ka → ks.length = ns.length → (∀ k i, (k, i) ∈ ks.zip ns → e k = some i) →
      PySem.W.KeqHitsP P w A s kb ka (ks.all fun k => decide (e k = iAt k qs ms))
  | [], _, _, e, ra, _, _ => by cases ra; exact .nil
  | c :: ks, [], _, e, ra, hl, _ => nomatch hl
  | c :: ks, n :: ns, ka, e, ra, hl, he => by
    rw [List.map_cons, List.zip_cons_cons] at ra
    unfold KV at ra
    cases ra with
    | @cons _ q _ qr h t =>
    obtain ⟨key, v⟩ := q
    obtain ⟨h1, h2⟩ := h
    have h1' : c = key := h1
    subst h1'
    obtain ⟨tk, rfl⟩ : ∃ tk, v = .int n tk := h2
    have e0 := he c n (by simp)
    have rr : RelO ((iAt c qs ms).map V.int) (valueAt kb c) := by rw [← iAt_val]; exact rb.val c
    rw [List.all_cons]
    have ih := hitsI (P := P) (w := w) (A := A) (s := s) rb e t (by simpa using hl) (fun k i hm => he k i (by rw [List.zip_cons_cons]; exact List.mem_cons_of_mem _ hm))
    cases hv : iAt c qs ms with
    | none =>
      rw [hv] at rr
      rw [e0, show decide (some n = (none : Option Int)) = false from rfl, Bool.false_and]
      exact .miss (RelO.none_of rr)
    | some m =>
      rw [hv] at rr
      obtain ⟨y, hy, ry⟩ := rr.some_of
      obtain ⟨tm, rfl⟩ : ∃ tk, y = .int m tk := ry
      rw [e0]
      refine .hit hy ?_ ih
      have z : decide (some n = some m) = (n == m) := by
        by_cases c : n = m
        · subst c; simp
        · simp [c]
      rw [z]
      exact (SeqAt.EqAt.int_int n tk m tm).eqP
section
variable {X : Cx}
def rEqK : R2 := fun x y H Q => (∃ a b ks ns qs ms, x = .ref a ∧ y = .ref b ∧ Rd H a (.dK (ks.zip (ns.map V.int))) ∧ Rd H b (.dK (qs.zip (ms.map V.int))) ∧ ks.Nodup ∧ ks.length = ns.length ∧ qs.length = ms.length ∧ Q (.bl (eqIK ks ns qs ms)) H) ∨
  ∃ b kvs, x = .non ∧ y = .ref b ∧ Rd H b (.dK kvs) ∧ Q (.bl false) H
theorem iAt_zip {κ : Type} [DecidableEq κ] {k : κ} {i : Int} : ∀ {ks : List κ} {ns : List Int}, ks.Nodup → (k, i) ∈ ks.zip ns → iAt k ks ns = some i
  | [], _, _, h => nomatch h
  | c :: ks, [], _, h => nomatch h
  | c :: ks, n :: ns, nd, h => by
    obtain ⟨d1, d2⟩ := List.nodup_cons.mp nd
    rw [List.zip_cons_cons] at h
    unfold iAt
    rcases List.mem_cons.mp h with h | h
    · cases h; rw [if_pos rfl]
    · rw [if_neg (fun z : k = c => d1 (by rw [← z]; exact (List.of_mem_zip h).1))]
      exact iAt_zip d2 h
theorem op_eqK (hu : X.A.units + 64 < cLine) : OpR X (compareOp .Eq) rEqK := by
  intro pins s σ H x y v u Q I rx ry h
  rcases h with ⟨a, b, ks, ns, qs, ms, rfl, rfl, ha, hb, nd, l1, l2, q⟩ | ⟨b, kvs, rfl, rfl, hb, q⟩
  · cases (show v = Value.ref a from rx)
    cases (show u = Value.ref b from ry)
    obtain ⟨_, ya, va, ra, da⟩ := (show ObjOk X.prog X.w H s.heap a (.dK _) from ha.ok I.hok)
    obtain ⟨_, yb, vb, rb, db⟩ := (show ObjOk X.prog X.w H s.heap b (.dK _) from hb.ok I.hok)
    refine PySem.W.rcP_dicts (knd := mixKind X.prog X.w) ya yb da db (by omega) (fun _ => hitsI rb (fun k => iAt k ks ns) ra l1 fun k i hm => iAt_zip nd hm) _ _ ?_
    have e1 : va.length = ks.length := by rw [← ra.length]; simp [l1]
    have e2 : vb.length = qs.length := by rw [← rb.length]; simp [l2]
    rw [e1, e2, show (ks.length == qs.length) = decide (ks.length = qs.length) from rfl]
    exact ⟨.bl _, H, I, rfl, q⟩
  · cases (show v = Value.none from rx)
    cases (show u = Value.ref b from ry)
    obtain ⟨_, yb, vb, rb, db⟩ := (show ObjOk X.prog X.w H s.heap b (.dK _) from hb.ok I.hok)
    exact rc_none_dict db (by omega) ⟨.bl false, H, I, rfl, q⟩
end
end Br
set_option maxHeartbeats 1000000
/-! BrD: the operations, by the layer's rules. -/
namespace Br
open PySem PySem.Spec PyProof.Rows L2

section
variable {X : Cx}
theorem OpR.imp {f : Value → Value → Sem Value} {r r' : R2} (h : OpR X f r) (i : ∀ x y H Q, r' x y H Q → r x y H Q) : OpR X f r' :=
  fun pins s σ H x y v u Q I rx ry q => h pins s σ H x y v u Q I rx ry (i x y H Q q)
theorem CallR.imp {f : Value} {r r' : List V → Hp → VK → Prop} (h : CallR X f r) (i : ∀ xs H Q, r' xs H Q → r xs H Q) : CallR X f r' :=
  fun pins s σ H xs us Q I r q => h pins s σ H xs us Q I r (i xs H Q q)
theorem IxR.imp {r r' : R2} (h : IxR X r) (i : ∀ x y H Q, r' x y H Q → r x y H Q) : IxR X r' :=
  fun value slice pins s σ H x y v u Q I rx ry q => h value slice pins s σ H x y v u Q I rx ry (i x y H Q q)
/-- choose the rule by what is asked -/
theorem OpR.pick {f : Value → Value → Sem Value} {r' : R2} (h : ∀ (pins : List (Addr × Obj)) (s : Shared) (σ : L2.St) (H : Hp) (x y : V) (Q : VK), Inv X pins σ H s → r' x y H Q → ∃ r, OpR X f r ∧ r x y H Q) : OpR X f r' :=
  fun pins s σ H x y v u Q I rx ry q => by
    obtain ⟨r, h1, h2⟩ := h pins s σ H x y Q I q
    exact h1 pins s σ H x y v u Q I rx ry h2
theorem CallR.pick {f : Value} {r' : List V → Hp → VK → Prop} (h : ∀ (pins : List (Addr × Obj)) (s : Shared) (σ : L2.St) (H : Hp) (xs : List V) (Q : VK), Inv X pins σ H s → r' xs H Q → ∃ r, CallR X f r ∧ r xs H Q) : CallR X f r' :=
  fun pins s σ H xs us Q I r q => by
    obtain ⟨r1, h1, h2⟩ := h pins s σ H xs Q I q
    exact h1 pins s σ H xs us Q I r h2
end

/-! ### results -/
section
variable {K : PySem.W.Frag} {F H : Hp} {nw : Bool}
theorem ResR.int {i : Int} : ResR K F H nw (.int i) (.int i) H := .inl ⟨rfl, rfl, fun _ => rfl⟩
theorem ResR.bl {i : Bool} : ResR K F H nw (.bl i) (.bl i) H := .inl ⟨rfl, rfl, fun _ => rfl⟩
theorem ResR.str {i : Str} : ResR K F H nw (.str i) (.str i) H := .inl ⟨rfl, rfl, fun _ => rfl⟩
theorem ResR.lst {l : List PV} {xs : List V} {a : Addr} (n : H a = none) (r : Reps K F l xs) : ResR K F H nw (.lst l) (.ref a) (upd H a (.lst xs)) := .inr (.inl ⟨a, _, n, rfl, rfl, xs, upd_same, r⟩)
theorem ResR.tup {l : List PV} {xs : List V} {a : Addr} (n : H a = none) (r : Reps K F l xs) : ResR K F H nw (.tup l) (.ref a) (upd H a (.tup xs)) := .inr (.inr (.inl ⟨a, xs, l, n, rfl, rfl, rfl, r⟩))
theorem ResR.xt0 {l : List PV} {xs : List V} {a : Addr} {o : Obj} (h : F a = some (.frz o (.tup xs))) (hd : o.dict = none) (r : Reps K F l xs) : ResR K F H nw (.xt l) (.ref a) H := .inl ⟨rfl, ⟨a, xs, o, rfl, h, hd, r⟩, fun _ => rfl⟩
theorem ResR.tup0 {l : List PV} {xs : List V} {a : Addr} (h : F a = some (.tup xs)) (r : Reps K F l xs) : ResR K F H nw (.tup l) (.ref a) H := .inl ⟨rfl, ⟨a, xs, rfl, h, r⟩, fun _ => rfl⟩
theorem ResR.any {p : PV} {v : V} (h : Rep K F p v) : ResR K F H false p v H := .inl ⟨rfl, h, fun e => nomatch e⟩
end

/-! ### what is at hand -/
theorem RepBs.one {K : PySem.W.Frag} {F H : Hp} {ps : List PV} {x : V} (h : RepBs K F H ps [x]) : ∃ p, ps = [p] ∧ RepB K F H p x := by
  cases ps with
  | nil => cases h
  | cons p ps =>
    obtain ⟨v, r, e, h1, h2⟩ := h
    cases e
    cases ps with
    | nil => exact ⟨p, rfl, h1⟩
    | cons q qs => obtain ⟨v, r, e, _⟩ := h2; cases e
theorem RepBs.two {K : PySem.W.Frag} {F H : Hp} {ps : List PV} {x y : V} (h : RepBs K F H ps [x, y]) : ∃ p q, ps = [p, q] ∧ RepB K F H p x ∧ RepB K F H q y := by
  cases ps with
  | nil => cases h
  | cons p ps =>
    obtain ⟨v, r, e, h1, h2⟩ := h
    cases e
    obtain ⟨q, rfl, h3⟩ := RepBs.one h2
    exact ⟨p, q, rfl, h1, h3⟩
theorem RepRs.one {K : PySem.W.Frag} {F H : Hp} {ps : List PV} {x : V} (h : RepRs K F H ps [x]) : ∃ p, ps = [p] ∧ RepR K F H p x := by
  cases ps with
  | nil => cases h
  | cons p ps =>
    obtain ⟨v, r, e, h1, h2⟩ := h
    cases e
    cases ps with
    | nil => exact ⟨p, rfl, h1⟩
    | cons q qs => obtain ⟨v, r, e, _⟩ := h2; cases e
theorem RepRs.two {K : PySem.W.Frag} {F H : Hp} {ps : List PV} {x y : V} (h : RepRs K F H ps [x, y]) : ∃ p q, ps = [p, q] ∧ RepR K F H p x ∧ RepR K F H q y := by
  cases ps with
  | nil => cases h
  | cons p ps =>
    obtain ⟨v, r, e, h1, h2⟩ := h
    cases e
    obtain ⟨q, rfl, h3⟩ := RepRs.one h2
    exact ⟨p, q, rfl, h1, h3⟩
theorem RepO.one {K : PySem.W.Frag} {F H : Hp} {b : Bool} {ps : List PV} {x : V} (h : RepO K F H b ps [x]) (hb : b = false := by rfl) : ∃ p, ps = [p] ∧ RepB K F H p x := by subst hb; exact RepBs.one h
theorem RepO.two {K : PySem.W.Frag} {F H : Hp} {b : Bool} {ps : List PV} {x y : V} (h : RepO K F H b ps [x, y]) (hb : b = false := by rfl) : ∃ p q, ps = [p, q] ∧ RepB K F H p x ∧ RepB K F H q y := by subst hb; exact RepBs.two h
theorem RepO.twoR {K : PySem.W.Frag} {F H : Hp} {b : Bool} {ps : List PV} {x y : V} (h : RepO K F H b ps [x, y]) (hb : b = true := by rfl) : ∃ p q, ps = [p, q] ∧ RepR K F H p x ∧ RepR K F H q y := by subst hb; exact RepRs.two h
theorem intsOf_eq : ∀ {l : List PV} {ns : List Int}, intsOf l = some ns → l = ns.map PV.int
  | [], ns, h => by cases h; rfl
  | p :: l, ns, h => by
    cases p with
    | int i =>
      obtain ⟨ms, h1, rfl⟩ := Option.map_eq_some_iff.mp (show (intsOf l).map (i :: ·) = some ns from h)
      rw [intsOf_eq h1]
      rfl
    | _ => cases h
/-! ### equality -/
mutual
theorem Rep.dp0 {K : PySem.W.Frag} {F : Hp} : ∀ (n : Nat) (p : PV) (v : V), p.isD n = true → Rep K F p v → Dp K F v p.toD
  | _, .non, v, _, h => by rw [show v = V.non from h]; exact .non
  | _, .bl b, v, _, h => by rw [show v = V.bl b from h]; exact .bl b
  | _, .int i, v, _, h => by rw [show v = V.int i from h]; exact .int i
  | _, .str x, v, _, h => by rw [show v = V.str x from h]; exact .str x
  | n + 1, .tup l, v, d, h => by
    obtain ⟨a, xs, rfl, h1, h2⟩ := h
    exact .tup (.inl (.inl h1)) (Reps.dp n l xs (by unfold PV.isD at d; exact d) h2)
  | n + 1, .lst l, v, d, h => by
    obtain ⟨a, xs, rfl, h1, h2⟩ := h
    exact .lst h1.sql (Reps.dp n l xs (by unfold PV.isD at d; exact d) h2)
  | n + 1, .xt l, v, d, h => by
    obtain ⟨a, xs, o, rfl, h1, _, h2⟩ := h
    exact .tup (.inl (.inr ⟨o, h1⟩)) (Reps.dp n l xs (by unfold PV.isD at d; exact d) h2)
  | 0, .tup l, v, d, h => by simp [PV.isD] at d
  | 0, .xt l, v, d, h => by simp [PV.isD] at d
  | 0, .lst l, v, d, h => by simp [PV.isD] at d
  | n, .ty _, v, d, h => by cases n <;> simp [PV.isD] at d
  | n, .exc _, v, d, h => by cases n <;> simp [PV.isD] at d
  | n, .dK _ _, v, d, h => by cases n <;> simp [PV.isD] at d
  | n, .dT _ _, v, d, h => by cases n <;> simp [PV.isD] at d
  | n, .dX _ _, v, d, h => by cases n <;> simp [PV.isD] at d
  | n, .obj _ _ _, v, d, h => by cases n <;> simp [PV.isD] at d
  | n + 1, .gt l, v, d, h => by
    obtain ⟨a, xs, rfl, h1, h2⟩ := h
    exact .tup h1 (Reps.dp n l xs (by unfold PV.isD at d; exact d) h2)
  | 0, .gt l, v, d, h => by simp [PV.isD] at d
theorem Reps.dp {K : PySem.W.Frag} {F : Hp} : ∀ (n : Nat) (l : List PV) (xs : List V), l.all (PV.isD n) = true → Reps K F l xs → DpAll K F xs (PV.toDs l)
  | _, [], xs, _, h => by rw [show xs = [] from h]; exact .nil
  | n, p :: l, xs, d, h => by
    obtain ⟨x, r, rfl, h1, h2⟩ := h
    rw [List.all_cons, Bool.and_eq_true] at d
    exact .cons (Rep.dp0 n p x d.1 h1) (Reps.dp n l r d.2 h2)
end
theorem Rep.dp {K : PySem.W.Frag} {F : Hp} (n : Nat) (p : PV) (v : V) (d : p.isD n = true) (h : RepA K F p v) : Dp K F v p.toD := by
  cases p with
  | tup l =>
    cases n with
    | zero => simp [PV.isD] at d
    | succ n =>
      obtain ⟨a, xs, rfl, h1, h2⟩ := h
      exact .tup h1 (Reps.dp n l xs (by unfold PV.isD at d; exact d) h2)
  | _ => exact Rep.dp0 n _ v d h
end Br
set_option maxHeartbeats 1000000
/-! BrD2: the operations' rules. -/
namespace Br
open PySem PySem.Spec PyProof.Rows L2

theorem lim_line {n : Nat} (h : n ≤ LIM) : n ≤ sizeLine := by
  rw [sizeLine_eq]
  unfold LIM at h
  omega
theorem canLay_ds {n : Nat} : ∀ (l : List PV), l.all (PV.isD n) = true → (∀ p ∈ l, p.isD n = true → p.toD.canLay0 = true) → PyData.canLayAll0 (PV.toDs l) = true
  | [], _, _ => by simp [PV.toDs, PyData.canLayAll0]
  | p :: l, h, k => by
    rw [List.all_cons, Bool.and_eq_true] at h
    simp only [PV.toDs, PyData.canLayAll0, Bool.and_eq_true]
    exact ⟨k p (by simp) h.1, canLay_ds l h.2 fun q hq => k q (by simp [hq])⟩
theorem canLay_d : ∀ (n : Nat) (p : PV), p.isD n = true → p.toD.canLay0 = true
  | _, .non, _ => by simp [PV.toD, PyData.canLay0]
  | _, .bl b, _ => by simp [PV.toD, PyData.canLay0]
  | _, .int i, _ => by simp [PV.toD, PyData.canLay0]
  | _, .str x, h => by simp only [PV.toD, PyData.canLay0]; unfold PV.isD at h; exact h
  | n + 1, .tup l, h => by
    simp only [PV.toD, PyData.canLay0]
    unfold PV.isD at h
    exact canLay_ds l h fun p _ hp => canLay_d n p hp
  | n + 1, .xt l, h => by
    simp only [PV.toD, PyData.canLay0]
    unfold PV.isD at h
    exact canLay_ds l h fun p _ hp => canLay_d n p hp
  | n + 1, .lst l, h => by
    simp only [PV.toD, PyData.canLay0]
    unfold PV.isD at h
    exact canLay_ds l h fun p _ hp => canLay_d n p hp
  | 0, .tup l, d => by simp [PV.isD] at d
  | 0, .xt l, d => by simp [PV.isD] at d
  | 0, .lst l, d => by simp [PV.isD] at d
  | n, .ty _, d => by cases n <;> simp [PV.isD] at d
  | n, .exc _, d => by cases n <;> simp [PV.isD] at d
  | n, .dK _ _, d => by cases n <;> simp [PV.isD] at d
  | n, .dT _ _, d => by cases n <;> simp [PV.isD] at d
  | n, .dX _ _, d => by cases n <;> simp [PV.isD] at d
  | n, .obj _ _ _, d => by cases n <;> simp [PV.isD] at d
  | n + 1, .gt l, h => by
    simp only [PV.toD, PyData.canLay0]
    unfold PV.isD at h
    exact canLay_ds l h fun p _ hp => canLay_d n p hp
  | 0, .gt l, d => by simp [PV.isD] at d
theorem depth_ds {n : Nat} : ∀ (l : List PV), l.all (PV.isD n) = true → (∀ p ∈ l, p.isD n = true → p.toD.depth ≤ n) → PyData.depthAll (PV.toDs l) ≤ n
  | [], _, _ => by simp [PV.toDs, PyData.depthAll]
  | p :: l, h, k => by
    rw [List.all_cons, Bool.and_eq_true] at h
    simp only [PV.toDs, PyData.depthAll]
    have h1 := k p (by simp) h.1
    have h2 := depth_ds l h.2 fun q hq => k q (by simp [hq])
    omega
theorem depth_d : ∀ (n : Nat) (p : PV), p.isD n = true → p.toD.depth ≤ n
  | _, .non, _ => by simp [PV.toD, PyData.depth]
  | _, .bl b, _ => by simp [PV.toD, PyData.depth]
  | _, .int i, _ => by simp [PV.toD, PyData.depth]
  | _, .str x, h => by simp [PV.toD, PyData.depth]
  | n + 1, .tup l, h => by
    simp only [PV.toD, PyData.depth]
    unfold PV.isD at h
    have := depth_ds l h fun p _ hp => depth_d n p hp
    omega
  | n + 1, .xt l, h => by
    simp only [PV.toD, PyData.depth]
    unfold PV.isD at h
    have := depth_ds l h fun p _ hp => depth_d n p hp
    omega
  | n + 1, .lst l, h => by
    simp only [PV.toD, PyData.depth]
    unfold PV.isD at h
    have := depth_ds l h fun p _ hp => depth_d n p hp
    omega
  | 0, .tup l, d => by simp [PV.isD] at d
  | 0, .xt l, d => by simp [PV.isD] at d
  | 0, .lst l, d => by simp [PV.isD] at d
  | n, .ty _, d => by cases n <;> simp [PV.isD] at d
  | n, .exc _, d => by cases n <;> simp [PV.isD] at d
  | n, .dK _ _, d => by cases n <;> simp [PV.isD] at d
  | n, .dT _ _, d => by cases n <;> simp [PV.isD] at d
  | n, .dX _ _, d => by cases n <;> simp [PV.isD] at d
  | n, .obj _ _ _, d => by cases n <;> simp [PV.isD] at d
  | n + 1, .gt l, h => by
    simp only [PV.toD, PyData.depth]
    unfold PV.isD at h
    have := depth_ds l h fun p _ hp => depth_d n p hp
    omega
  | 0, .gt l, d => by simp [PV.isD] at d
theorem shaped_d {p : PV} (h : p.isD 60 = true) : SeqAt.shaped p.toD = true := by
  unfold SeqAt.shaped
  rw [canLay_d 60 p h, Bool.true_and]
  exact decide_eq_true (Nat.le_trans (depth_d 60 p h) (by decide))

section
variable {X : Cx}
abbrev R2of (K : PySem.W.Frag) (o : Op) : R2 := fun x y H Q => rOp K o [x, y] H Q
theorem or_eq (hu : X.A.units + 64 < cLine) : OpR X (compareOp .Eq) (R2of X.K .eq) := by
  refine OpR.pick fun pins s σ H x y Q I h => ?_
  obtain ⟨F, ps, r, e, hb, ho, q⟩ := h
  obtain ⟨p, t, rfl, h1, h2⟩ := hb.two
  simp only [opSem] at ho
  unfold eqOP at ho
  split at ho
  · rename_i a b hab
    cases hab
    cases ho
    rw [show x = V.str a from h1, show y = V.str b from h2]
    refine ⟨_, op_eq, rfl, ?_⟩
    have e2 : decide (V.str a = V.str b) = decide (a = b) := by simp
    rw [e2]
    exact q _ _ .bl
  · rename_i a b _ hab
    cases hab
    split at ho
    · rename_i hd
      cases ho
      exact ⟨_, op_eqD hu, _, _, Rep.dp 60 _ x hd.1 (h1.rep e), Rep.dp 60 _ y hd.2 (h2.rep e), shaped_d hd.1, shaped_d hd.2, q _ _ .bl⟩
    · unfold eqKP at ho
      split at ho
      · rename_i ks vs qs ws _ _
        obtain ⟨ns, hn, ho⟩ := Option.bind_eq_some_iff.mp ho
        obtain ⟨ms, hm, ho⟩ := Option.map_eq_some_iff.mp ho
        subst ho
        obtain ⟨c, xs, rfl, hc, hl, nd, rc⟩ := h1
        obtain ⟨d, ys, rfl, hd, hl2, nd2, rd⟩ := h2
        rw [intsOf_eq hn] at rc
        rw [intsOf_eq hm] at rd
        rw [Reps.ints rc] at hc hl
        rw [Reps.ints rd] at hd hl2
        exact ⟨_, op_eqK hu, .inl ⟨c, d, ks, ns, qs, ms, rfl, rfl, hc, hd, nd, by simpa using hl, by simpa using hl2, q _ _ .bl⟩⟩
      · cases ho
        obtain ⟨d, ys, rfl, hd, hl2, nd2, rd⟩ := h2
        exact ⟨_, op_eqK hu, .inr ⟨d, _, (show x = V.non from h1), rfl, hd, q _ _ .bl⟩⟩
      · cases ho
  · cases ho
theorem or_ne (hu : X.A.units + 64 < cLine) : OpR X (compareOp .NotEq) (R2of X.K .ne) := by
  refine OpR.pick fun pins s σ H x y Q I h => ?_
  obtain ⟨F, ps, r, e, hb, ho, q⟩ := h
  obtain ⟨p, t, rfl, h1, h2⟩ := hb.two
  simp only [opSem] at ho
  unfold neOP at ho
  split at ho
  · rename_i a b hab
    cases hab
    cases ho
    rw [show x = V.str a from h1, show y = V.str b from h2]
    refine ⟨_, op_ne, rfl, ?_⟩
    have e2 : decide (V.str a = V.str b) = decide (a = b) := by simp
    rw [e2]
    exact q _ _ .bl
  · rename_i a b _ hab
    cases hab
    split at ho
    · rename_i hd
      cases ho
      exact ⟨_, op_neD hu, _, _, Rep.dp 60 _ x hd.1 (h1.rep e), Rep.dp 60 _ y hd.2 (h2.rep e), shaped_d hd.1, shaped_d hd.2, q _ _ .bl⟩
    · cases ho
  · cases ho
theorem or_gt : OpR X (compareOp .Gt) (R2of X.K .gt) := by
  refine OpR.imp op_gt fun x y H Q h => ?_
  obtain ⟨F, ps, r, e, hb, ho, q⟩ := h
  obtain ⟨p, t, rfl, h1, h2⟩ := hb.two
  simp only [opSem] at ho
  unfold gtOP at ho
  split at ho
  · rename_i a b hab
    cases hab
    cases ho
    exact ⟨_, _, h1, h2, q _ _ .bl⟩
  · cases ho
/-! ### arithmetic -/
/-- list + list, whatever they are -/
def rCatL (K : PySem.W.Frag) : R2 := fun x y H Q => ∃ l b xs zs, x = .ref l ∧ y = .ref b ∧ SqE K H l xs ∧ SqE K H b zs ∧ xs.length + zs.length ≤ sizeLine ∧ ∀ p, H p = none → Q (.ref p) (upd H p (.lst (xs ++ zs)))
theorem Inv.rd {pins : List (Addr × Obj)} {σ : L2.St} {H : Hp} {s : Shared} {l : Addr} {xs : List V} (I : Inv X pins σ H s) (h : SqE X.K H l xs) :
    ∃ (its : List Value) (n : Nat), Vals xs its ∧ xs.length = its.length ∧ xs.length ≤ sizeLine ∧ s.heap.get? l = some { cls := .type "list", data := .seq its.toArray n } := by
  rcases h with h | ⟨its, n, hk, hz, r⟩
  · obtain ⟨z, its, n, r, e⟩ := (h.ok I.hok : ObjOk X.prog X.w H s.heap l (.lst xs))
    exact ⟨its, n, r, r.length, z, e⟩
  · have hl := r.length
    have hl2 : its.toList.length = its.size := Array.length_toList
    exact ⟨its.toList, n, r, r.length, by omega, I.kIn _ _ hk⟩
theorem op_catL : OpR X (binaryOp .Add) (rCatL X.K) := by
  intro pins s σ H x y v u Q I rx ry h
  obtain ⟨l, b, xs, zs, rfl, rfl, hH, hB, hz, q⟩ := h
  cases rx
  cases ry
  obtain ⟨its, n, r, hl, z, pl⟩ := Inv.rd I hH
  obtain ⟨its2, n2, r2, hl2, z2, pl2⟩ := Inv.rd I hB
  refine PySem.P.add_list pl pl2 ?_ (by rw [List.size_toArray, List.size_toArray]; omega)
  have ea : its.toArray ++ its2.toArray = (its ++ its2).toArray := by simp
  rw [ea]
  exact ⟨.ref _, _, I.lnew (t' := s.toks) (r.append r2) (by rw [List.length_append]; omega), rfl, q _ I.fresh⟩
theorem or_add : OpR X (binaryOp .Add) (R2of X.K .add) := by
  refine OpR.pick fun pins s σ H x y Q I h => ?_
  obtain ⟨F, ps, r, e, hb, ho, q⟩ := h
  obtain ⟨p, t, rfl, h1, h2⟩ := hb.twoR
  simp only [opSem] at ho
  unfold addP at ho
  split at ho
  · rename_i a b hab
    cases hab
    cases ho
    exact ⟨_, op_add, _, _, h1, h2, q _ _ .int⟩
  · rename_i a b hab
    cases hab
    split at ho
    · rename_i hz
      cases ho
      exact ⟨_, op_add_str, _, _, h1, h2, lim_line hz, q _ _ .str⟩
    · cases ho
  · rename_i a b hab
    cases hab
    split at ho
    · rename_i hz
      cases ho
      obtain ⟨c, xs, rfl, hc, rc⟩ := h1
      obtain ⟨d, ys, rfl, hd, rd⟩ := h2
      exact ⟨_, op_catL, c, d, xs, ys, rfl, rfl, hc, hd, by rw [← rc.length, ← rd.length]; exact lim_line hz, fun p hp => q _ _ (.lst hp (rc.append rd))⟩
    · cases ho
  · rename_i a b hab
    cases hab
    split at ho
    · rename_i hz
      cases ho
      obtain ⟨c, xs, rfl, hc, rc⟩ := h1
      obtain ⟨d, ys, rfl, hd, rd⟩ := h2
      refine ⟨_, op_catA, c, d, xs, ys, rfl, rfl, .inl (.inl (e _ _ hc)), .inl (.inl (e _ _ hd)), by rw [← rc.length, ← rd.length]; exact lim_line hz, fun hx => ?_, fun hx hy => ?_, fun hx hy p hp => q _ _ (.tup hp (rc.append rd))⟩
      · subst hx
        have : a = [] := List.eq_nil_of_length_eq_zero (by rw [rc.length]; rfl)
        subst this
        exact q _ _ (.tup0 hd rd)
      · subst hy
        have : b = [] := List.eq_nil_of_length_eq_zero (by rw [rd.length]; rfl)
        subst this
        rw [List.append_nil] at q
        exact q _ _ (.tup0 hc rc)
    · cases ho
  · rename_i a b hab
    cases hab
    split at ho
    · rename_i hz
      cases ho
      obtain ⟨c, xs, o1, rfl, hc, _, rc⟩ := h1
      obtain ⟨d, ys, rfl, hd, rd⟩ := h2
      refine ⟨_, op_catA, c, d, xs, ys, rfl, rfl, .inl (.inr ⟨o1, e _ _ hc⟩), .inl (.inl (e _ _ hd)), by rw [← rc.length, ← rd.length]; exact lim_line hz.2.2, fun hx => ?_, fun hx hy => ?_, fun hx hy p hp => q _ _ (.tup hp (rc.append rd))⟩
      · subst hx
        exact absurd (List.eq_nil_of_length_eq_zero (by rw [rc.length]; rfl)) hz.1
      · subst hy
        exact absurd (List.eq_nil_of_length_eq_zero (by rw [rd.length]; rfl)) hz.2.1
    · cases ho
  · rename_i a b hab
    cases hab
    split at ho
    · rename_i hz
      cases ho
      obtain ⟨c, xs, rfl, hc, rc⟩ := h1
      obtain ⟨d, ys, o2, rfl, hd, _, rd⟩ := h2
      refine ⟨_, op_catA, c, d, xs, ys, rfl, rfl, .inl (.inl (e _ _ hc)), .inl (.inr ⟨o2, e _ _ hd⟩), by rw [← rc.length, ← rd.length]; exact lim_line hz.2.2, fun hx => ?_, fun hx hy => ?_, fun hx hy p hp => q _ _ (.tup hp (rc.append rd))⟩
      · subst hx
        exact absurd (List.eq_nil_of_length_eq_zero (by rw [rc.length]; rfl)) hz.1
      · subst hy
        exact absurd (List.eq_nil_of_length_eq_zero (by rw [rd.length]; rfl)) hz.2.1
    · cases ho
  · rename_i a b hab
    cases hab
    split at ho
    · rename_i hz
      cases ho
      obtain ⟨c, xs, o1, rfl, hc, _, rc⟩ := h1
      obtain ⟨d, ys, o2, rfl, hd, _, rd⟩ := h2
      refine ⟨_, op_catA, c, d, xs, ys, rfl, rfl, .inl (.inr ⟨o1, e _ _ hc⟩), .inl (.inr ⟨o2, e _ _ hd⟩), by rw [← rc.length, ← rd.length]; exact lim_line hz.2.2, fun hx => ?_, fun hx hy => ?_, fun hx hy p hp => q _ _ (.tup hp (rc.append rd))⟩
      · subst hx
        exact absurd (List.eq_nil_of_length_eq_zero (by rw [rc.length]; rfl)) hz.1
      · subst hy
        exact absurd (List.eq_nil_of_length_eq_zero (by rw [rd.length]; rfl)) hz.2.1
    · cases ho
  · cases ho
theorem or_sub : OpR X (binaryOp .Sub) (R2of X.K .sub) := by
  refine OpR.imp op_sub fun x y H Q h => ?_
  obtain ⟨F, ps, r, e, hb, ho, q⟩ := h
  obtain ⟨p, t, rfl, h1, h2⟩ := hb.two
  simp only [opSem] at ho
  unfold subP at ho
  split at ho
  · rename_i a b hab
    cases hab
    cases ho
    exact ⟨_, _, h1, h2, q _ _ .int⟩
  · cases ho
theorem mulOk.ok {i j : Int} (h : mulOk i j) : IntMulOk i j := by
  rcases h with h | h | h
  · exact CMul.ok (.inl (by omega))
  · exact CMul.ok (.inr (by omega))
  · have b : ∀ x : Int, Builtin.Int.intBits x ≤ x.natAbs.log2 + 1 := fun x => by
      unfold Builtin.Int.intBits
      split <;> omega
    have h1 := b i
    have h2 := b j
    have e : bitsLine = 134217728 := by decide
    unfold IntMulOk Builtin.Int.intTooBig
    have h5 : ¬ (((Builtin.Int.intBits i + Builtin.Int.intBits j : Nat) : Int) > (bitsLine : Int)) := by omega
    simp only [Bool.and_eq_true, decide_eq_true_eq]
    intro h6
    exact h5 (by have := h6.2; push_cast at this ⊢; omega)
theorem op_mulA : OpR X (binaryOp .Mult) (rI mulOk fun i j => .int (i * j)) := opI fun _ _ _ _ _ _ _ hc q => mul_int q hc.ok
theorem Reps.rep {K : PySem.W.Frag} {F : Hp} {l : List PV} {xs : List V} (h : Reps K F l xs) : ∀ k : Nat, Reps K F (List.replicate k l).flatten (List.replicate k xs).flatten
  | 0 => .nil
  | k + 1 => by
    rw [List.replicate_succ, List.replicate_succ, List.flatten_cons, List.flatten_cons]
    exact h.append (h.rep k)
def rRepL (K : PySem.W.Frag) : R2 := fun x y H Q => ∃ l k xs, x = .ref l ∧ y = .int k ∧ SqE K H l xs ∧ -(2 ^ 63) ≤ k ∧ k < 2 ^ 63 ∧ xs.length * k.toNat ≤ sizeLine ∧
  ∀ p, H p = none → Q (.ref p) (upd H p (.lst (List.replicate k.toNat xs).flatten))
theorem op_repL : OpR X (binaryOp .Mult) (rRepL X.K) := by
  intro pins s σ H x y v u Q I rx ry h
  obtain ⟨l, k, xs, rfl, rfl, hH, h1, h2, hz, q⟩ := h
  cases rx
  obtain ⟨t, rfl⟩ := ry
  obtain ⟨its, n, r, hl, z, e⟩ := Inv.rd I hH
  have hlen : its.toArray.size * k.toNat ≤ sizeLine := by rw [List.size_toArray, ← hl]; exact hz
  have hcap : ¬ its.toArray.size * k.toNat > (2 ^ 63 - 1) / 8 := by
    have : (sizeLine : Nat) ≤ (2 ^ 63 - 1) / 8 := by decide
    omega
  have hfit : ¬ (!Builtin.List.listFitsIndex k) = true := by
    rw [fitsIndex_both h1 h2]
    exact Bool.false_ne_true
  have hlong : ¬ Builtin.List.listTooLong (its.toArray.size * k.toNat) = true := by
    rw [notLongL hlen]
    exact Bool.false_ne_true
  have hnew : List.foldl (fun x1 x2 => x1 ++ x2) #[] (List.replicate (if its.toArray.isEmpty = true then 0 else k.toNat) its.toArray) = (List.replicate k.toNat its).flatten.toArray := by
    have f0 : ∀ m : Nat, List.foldl (fun x1 x2 => x1 ++ x2) #[] (List.replicate m its.toArray) = (List.replicate m its).flatten.toArray := fun m => by
      have := foldl_rep its m []
      rw [List.nil_append] at this
      exact this
    rw [f0]
    cases its with
    | nil => simp
    | cons a r' => rw [if_neg (by simp)]
  refine wpAny_binaryOp_repeat_ref (T := "list") (U := "int") (by decide) ⟨_, e, rfl⟩ (fun s' => typeIs_int s' k t) noFill_list_mul F.fills_int_mul F.slot_int_rmul repeat_list F.slot_int_index.lookup
    (call_meets F.slot_int_rmul (typeIs_int s k t) F.entry_int_rmul (F.args_int_rmul_2 _ _) (int___rmul___int_list k t l its.toArray n)
      ⟨e, rfl, ⟨_, e, rfl⟩, call_meets F.slot_list_mul ⟨_, e, rfl⟩ F.entry_list_mul (F.args_list_mul_2 _ _) (AutoListH.list___mul___list_int_3 l its.toArray n k t hfit hcap hlong) ⟨e, ?_⟩⟩)
  rw [hnew]
  exact ⟨.ref _, _, I.lnew (t' := s.toks) (r.rep k.toNat) (by rw [PyProof.Rows.lm_len_rep_flat, Nat.mul_comm]; exact hz), rfl, q _ I.fresh⟩
theorem tuple_mul1 (l : Addr) (items : Array Value) (n : Nat) (dd : Option Addr) (sl : Array (Option Value)) (u : Tok) :
    Meets (Builtin.«tuple.__mul__» ⟨[.ref l, .int 1 u], []⟩) (fun _ R s => s.heap.get? l = some { cls := .type "tuple", dict := dd, data := .seq items n, slots := sl } ∧
      R (.ok (.ret (Value.ref l))) s) :=
  .of_wp fun prog w A R s h => by
    obtain ⟨hp, g, d, tk, os⟩ := s
    obtain ⟨hl, h⟩ := h
    have f1 := AutoSeq1.idx_int
    wp_walk using wpAny_loadPart' hl
    exact ⟨_, rfl, h⟩
theorem tuple_mul0 (l : Addr) (items : Array Value) (n : Nat) (dd : Option Addr) (sl : Array (Option Value)) (u : Tok) (c1 : (items.isEmpty || (0 : Int) == 1) = false) :
    Meets (Builtin.«tuple.__mul__» ⟨[.ref l, .int 0 u], []⟩) (fun _ R s => s.heap.get? l = some { cls := .type "tuple", dict := dd, data := .seq items n, slots := sl } ∧
      R (.ok (.ret (Value.ref s.heap.objs.size))) { s with heap := s.heap.push { cls := Value.type "tuple", data := Data.seq #[] }, toks := s.toks }) :=
  .of_wp fun prog w A R s h => by
    obtain ⟨hp, g, d, tk, os⟩ := s
    obtain ⟨hl, h⟩ := h
    have f1 := AutoSeq1.idx_int
    wp_walk using wpAny_loadPart' hl
    repeat (first
      | (refine wpAny_ite_false (decide_eq_false (by rw [c1]; exact Bool.false_ne_true)) ?_; wp_walk using wpAny_loadPart' hl))
    exact ⟨_, rfl, h⟩
/-- t * 0 -/
def rRep0 (K : PySem.W.Frag) : R2 := fun x y H Q => ∃ l xs, x = .ref l ∧ y = .int 0 ∧ SqT K H l xs ∧ xs ≠ [] ∧ ∀ p, H p = none → Q (.ref p) (upd H p (.tup []))
theorem op_rep0 : OpR X (binaryOp .Mult) (rRep0 X.K) := by
  intro pins s σ H x y v u Q I rx ry h
  obtain ⟨l, xs, rfl, rfl, hT, hne, q⟩ := h
  cases rx
  obtain ⟨t, rfl⟩ := ry
  obtain ⟨its, r, ⟨⟨cls, dd, data, sl⟩, ho, hc, n, hd⟩, hs⟩ := I.tuple hT
  simp only at hc hd
  subst hc hd
  have hi : its.toArray.isEmpty = false := by
    cases its with
    | nil => exact absurd (List.eq_nil_of_length_eq_zero (by rw [r.length]; rfl)) hne
    | cons a b => rfl
  refine wpAny_binaryOp_repeat_ref (T := "tuple") (U := "int") (by decide) ⟨_, ho, rfl⟩ (fun s' => typeIs_int s' 0 t) noFill_tuple_mul F.fills_int_mul F.slot_int_rmul repeat_tuple F.slot_int_index.lookup
    (call_meets F.slot_int_rmul (typeIs_int s 0 t) F.entry_int_rmul (F.args_int_rmul_2 _ _) (int_rmul_tuple 0 t l its.toArray n dd sl)
      ⟨ho, rfl, ⟨_, ho, rfl⟩, call_meets F.slot_tuple_mul ⟨_, ho, rfl⟩ F.entry_tuple_mul (F.args_tuple_mul_2 _ _) (tuple_mul0 l its.toArray n dd sl t (by rw [hi]; rfl)) ⟨ho, ?_⟩⟩)
  refine ⟨.ref s.heap.objs.size, _, I.laid (t' := s.toks) (o := .tup []) (fun b ob q => Heap.get?_push_of_some _ q) (Nat.le_refl _) ?_, rfl, q _ (I.hok.fresh (Nat.le_refl _))⟩
  exact ⟨Nat.zero_le _, [], .nil, IsTup.new _ _⟩
/-- (x,) * k, k from 2 to a million -/
def rRepO (K : PySem.W.Frag) : R2 := fun x y H Q => ∃ l k xs, x = .ref l ∧ y = .int k ∧ SqT K H l xs ∧ xs.length = 1 ∧ 2 ≤ k ∧ k ≤ 1000000 ∧ ∀ p, H p = none → Q (.ref p) (upd H p (.tup (List.replicate k.toNat xs).flatten))
theorem op_repO : OpR X (binaryOp .Mult) (rRepO X.K) := by
  intro pins s σ H x y v u Q I rx ry h
  obtain ⟨l, k, xs, rfl, rfl, hT, h0, h1, h2, q⟩ := h
  cases rx
  obtain ⟨t, rfl⟩ := ry
  obtain ⟨its, r, ⟨⟨cls, dd, data, sl⟩, ho, hc, n, hd⟩, hs⟩ := I.tuple hT
  simp only at hc hd
  subst hc hd
  have hle : its.length = 1 := by rw [← r.length, h0]
  obtain ⟨i0, rfl⟩ : ∃ i0, its = [i0] := List.length_eq_one_iff.mp hle
  have e1 : (((#[i0] : Array Value).size : Nat) : Int) * k = k := by simp
  have fl : (List.replicate k.toNat [i0]).flatten.length = k.toNat := by rw [PyProof.Rows.lm_len_rep_flat]; simp
  have fx : (List.replicate k.toNat xs).flatten.length = k.toNat := by rw [PyProof.Rows.lm_len_rep_flat, h0]; simp
  have c0 : (decide (k < -(2 ^ 63)) || decide (k ≥ 2 ^ 63)) = false := by
    rw [decide_eq_false (by omega), decide_eq_false (by omega)]; rfl
  have c1 : ((#[i0] : Array Value).isEmpty || k == 1) = false := by
    rw [show (#[i0] : Array Value).isEmpty = false from rfl, Bool.false_or]
    exact beq_eq_false_iff_ne.mpr (by omega)
  have c2 : (decide (k ≤ 0) || (#[i0] : Array Value).isEmpty) = false := by
    rw [show (#[i0] : Array Value).isEmpty = false from rfl, Bool.or_false]
    exact decide_eq_false (by omega)
  have c4 : Builtin.Tuple.tupleTooMany ((((#[i0] : Array Value).size : Nat) : Int) * k) = false := by
    rw [e1]
    unfold Builtin.Tuple.tupleTooMany
    rw [sizeLine_eq]
    exact decide_eq_false (by omega)
  have c3 : ¬ (((#[i0] : Array Value).size : Nat) : Int) * k > (2 ^ 63 - 1) / 8 := by rw [e1]; omega
  have sr := size_rep [i0] k.toNat
  refine wpAny_binaryOp_repeat_ref (T := "tuple") (U := "int") (by decide) ⟨_, ho, rfl⟩ (fun s' => typeIs_int s' k t) noFill_tuple_mul F.fills_int_mul F.slot_int_rmul repeat_tuple F.slot_int_index.lookup
    (call_meets F.slot_int_rmul (typeIs_int s k t) F.entry_int_rmul (F.args_int_rmul_2 _ _) (int_rmul_tuple k t l #[i0] n dd sl)
      ⟨ho, rfl, ⟨_, ho, rfl⟩, call_meets F.slot_tuple_mul ⟨_, ho, rfl⟩ F.entry_tuple_mul (F.args_tuple_mul_2 _ _) (tuple_mulW l #[i0] n dd sl k t c0 c1 c2 c3 c4 (by
        show (List.foldl (fun x1 x2 => x1 ++ x2) #[] (List.replicate k.toNat [i0].toArray)).size ≤ sizeLine
        rw [sr, List.size_toArray, fl, sizeLine_eq]
        omega)) ⟨ho, ?_⟩⟩)
  show ∃ _, _
  rw [show List.foldl (fun x1 x2 => x1 ++ x2) #[] (List.replicate k.toNat (#[i0] : Array Value)) = (List.replicate k.toNat [i0]).flatten.toArray from sr]
  refine ⟨.ref s.heap.objs.size, _, I.laid (t' := s.toks) (o := .tup (List.replicate k.toNat xs).flatten) (fun b ob q => Heap.get?_push_of_some _ q) (Nat.le_refl _) ?_, rfl, q _ (I.hok.fresh (Nat.le_refl _))⟩
  exact ⟨by rw [fx, sizeLine_eq]; omega, _, r.rep k.toNat, IsTup.new _ _⟩
def rRepA (K : PySem.W.Frag) : R2 := fun x y H Q => ∃ l k xs, x = .ref l ∧ y = .int k ∧ SqT K H l xs ∧ xs ≠ [] ∧ 1 ≤ k ∧ k ≤ 1000 ∧ xs.length ≤ 1000 ∧ (k = 1 → Q (.ref l) H) ∧ ∀ p, H p = none → Q (.ref p) (upd H p (.tup (List.replicate k.toNat xs).flatten))
theorem op_repA : OpR X (binaryOp .Mult) (rRepA X.K) := by
  intro pins s σ H x y v u Q I rx ry h
  obtain ⟨l, k, xs, rfl, rfl, hT, hne, h1, h2, hz, q1, q⟩ := h
  by_cases hk : k = 1
  · subst hk
    cases rx
    obtain ⟨t, rfl⟩ := ry
    obtain ⟨its, r, ⟨⟨cls, dd, data, sl⟩, ho, hc, n, hd⟩, hs⟩ := I.tuple hT
    simp only at hc hd
    subst hc hd
    exact wpAny_binaryOp_repeat_ref (T := "tuple") (U := "int") (by decide) ⟨_, ho, rfl⟩ (fun s' => typeIs_int s' 1 t) noFill_tuple_mul F.fills_int_mul F.slot_int_rmul repeat_tuple F.slot_int_index.lookup
      (call_meets F.slot_int_rmul (typeIs_int s 1 t) F.entry_int_rmul (F.args_int_rmul_2 _ _) (int_rmul_tuple 1 t l its.toArray n dd sl)
        ⟨ho, rfl, ⟨_, ho, rfl⟩, call_meets F.slot_tuple_mul ⟨_, ho, rfl⟩ F.entry_tuple_mul (F.args_tuple_mul_2 _ _) (tuple_mul1 l its.toArray n dd sl t) ⟨ho, ⟨.ref l, H, I, rfl, q1 rfl⟩⟩⟩)
  · exact op_repT pins s σ H _ _ v u Q I rx ry ⟨l, k, xs, rfl, rfl, hT, hne, by omega, h2, hz, q⟩
theorem foldl_repA (a : Array Nat) : ∀ (m : Nat) (acc : List Nat), List.foldl (fun x1 x2 => x1 ++ x2) acc.toArray (List.replicate m a) = (acc ++ (List.replicate m a.toList).flatten).toArray
  | 0, acc => by simp
  | m + 1, acc => by
    rw [List.replicate_succ, List.foldl_cons, List.replicate_succ, List.flatten_cons, ← List.append_assoc, ← foldl_repA a m (acc ++ a.toList)]
    congr 1
    simp
theorem op_mulStr : OpR X (binaryOp .Mult) (fun x y H Q => ∃ z b, x = V.str z ∧ y = V.int b ∧ 2 ≤ b ∧ b ≤ 1000 ∧ 1 ≤ z.length ∧ z.length ≤ 1000 ∧ Q (.str ⟨(List.replicate b.toNat z.cps.toList).flatten.toArray⟩) H) := by
  intro pins s σ H x y v u Q I rx ry h
  obtain ⟨z, b, rfl, rfl, h1, h2, h3, h4, q⟩ := h
  obtain ⟨t, rfl⟩ := rx
  obtain ⟨t2, rfl⟩ := ry
  have hc : ¬ ((b == 1 || z.length == 0) = true) := by
    rw [Bool.or_eq_true, beq_iff_eq, beq_iff_eq]
    omega
  have hlen : z.length * b.toNat ≤ 1000000 := by
    have : z.length * b.toNat ≤ 1000 * 1000 := Nat.mul_le_mul h4 (by omega)
    omega
  refine PySem.P.mul_str (by
      have e1 : ¬ b < -(2 ^ 63 : Int) := by omega
      have e2 : ¬ b ≥ 2 ^ 63 := by omega
      rw [decide_eq_false e1, decide_eq_false e2]; rfl) (fun _ _ => ?_) (fun _ _ => ?_) ?_
  · have : (1000 : Int) ≤ (2 ^ 63 - 1) / b := by
      rw [Int.le_ediv_iff_mul_le (by omega)]
      omega
    omega
  · exact decide_eq_false (by have := lim_line (n := z.length * b.toNat) hlen; omega)
  · rw [if_neg (by omega), if_neg hc]
    have e : List.foldl (fun x1 x2 => x1 ++ x2) #[] (List.replicate b.toNat z.cps) = (List.replicate b.toNat z.cps.toList).flatten.toArray := by
      have := foldl_repA z.cps b.toNat []
      rw [List.nil_append] at this
      exact this
    rw [e]
    refine ⟨?_, .str _, H, I.tok _, ⟨_, rfl⟩, q⟩
    show (List.replicate b.toNat z.cps.toList).flatten.toArray.size ≤ _
    rw [List.size_toArray, PyProof.Rows.lm_len_rep_flat, Array.length_toList, Nat.mul_comm]
    exact lim_line hlen
theorem or_mul : OpR X (binaryOp .Mult) (R2of X.K .mul) := by
  refine OpR.pick fun pins s σ H x y Q I h => ?_
  obtain ⟨F, ps, r, e, hb, ho, q⟩ := h
  obtain ⟨p, t, rfl, h1, h2⟩ := hb.twoR
  simp only [opSem] at ho
  unfold mulP at ho
  split at ho
  · rename_i a b hab
    cases hab
    split at ho
    · rename_i hm
      cases ho
      exact ⟨_, op_mulA, _, _, h1, h2, hm, q _ _ .int⟩
    · cases ho
  · rename_i a b hab
    cases hab
    split at ho
    · rename_i hm
      cases ho
      exact ⟨_, op_mulStr, _, _, h1, h2, hm.1, hm.2.1, hm.2.2.1, hm.2.2.2, q _ _ .str⟩
    · cases ho
  · rename_i l b hab
    cases hab
    split at ho
    · rename_i hm
      cases ho
      obtain ⟨c, xs, rfl, hc, rc⟩ := h1
      have hx := rc.length.symm
      have hb' : b < 2 ^ 63 := by have := hm.2.1; unfold LIM at this; omega
      refine ⟨_, op_repL, c, b, xs, rfl, h2, hc, by have := hm.1; omega, hb', ?_, fun p hp => q _ _ (.lst hp (rc.rep _))⟩
      rw [hx]
      rcases hm.2.2 with h1 | h1
      · rw [h1, Nat.one_mul]
        have := hm.2.1
        exact lim_line (by unfold LIM at this ⊢; omega)
      · exact lim_line h1
    · cases ho
  · rename_i l b hab
    cases hab
    split at ho
    · rename_i hm
      cases ho
      obtain ⟨c, xs, rfl, hc, rc⟩ := h1
      have hx := rc.length.symm
      refine ⟨_, op_repA, c, b, xs, rfl, h2, .inl (.inl (e _ _ hc)), ?_, hm.1, hm.2.1, by have := hm.2.2.2; omega, ?_, fun p hp => q _ _ (.tup hp (rc.rep _))⟩
      · intro e
        subst e
        have := hm.2.2.1
        rw [List.length_nil] at hx
        exact this (List.eq_nil_of_length_eq_zero (by omega))
      · intro e1
        subst e1
        refine q _ _ ?_
        have e2 : (List.replicate (1 : Int).toNat l).flatten = l := by
          show (List.replicate 1 l).flatten = l
          simp
        rw [e2]
        exact .tup0 hc rc
    · rename_i hn
      split at ho
      · rename_i hm
        cases ho
        obtain ⟨c, xs, rfl, hc, rc⟩ := h1
        have hx := rc.length.symm
        have hb2 : 1000 < b := by
          by_cases z : b ≤ 1000
          · exact absurd ⟨hm.1, z, (fun e0 => by rw [e0] at hm; simp at hm), by omega⟩ hn
          · omega
        exact ⟨_, op_repO, c, b, xs, rfl, h2, .inl (.inl (e _ _ hc)), by omega, by omega, hm.2.1, fun p hp => q _ _ (.tup hp (rc.rep _))⟩
      · split at ho
        · rename_i hm
          cases ho
          obtain ⟨c, xs, rfl, hc, rc⟩ := h1
          have hx := rc.length.symm
          obtain ⟨rfl, hl⟩ := hm
          refine ⟨_, op_rep0, c, xs, rfl, h2, .inl (.inl (e _ _ hc)), fun e1 => ?_, fun p hp => q _ _ (.tup hp rfl)⟩
          subst e1
          exact hl (List.eq_nil_of_length_eq_zero (by rw [rc.length]; rfl))
        · cases ho
  · cases ho
theorem op_fdivA : OpR X (binaryOp .FloorDiv) (rI (fun _ j => 0 < j ∧ j.natAbs.log2 < 9000) fun i j => .int (i / j)) := opI fun i j _ _ _ _ _ hc q => by
  have h1 : (0 : Int) < j := hc.1
  exact floordiv_int (by omega) (by rw [Int.fdiv_eq_ediv_of_nonneg i (by omega)]; exact q) (.inl (PyProof.noPylong_of_log2 hc.2))
theorem op_fdivM : OpR X (binaryOp .FloorDiv) (rI (fun _ j => j < 0 ∧ j.natAbs.log2 < 9000) fun i j => .int (i.fdiv j)) := opI fun i j _ _ _ _ _ hc q => by
  have h1 : j < (0 : Int) := hc.1
  exact floordiv_int (by omega) q (.inl (PyProof.noPylong_of_log2 hc.2))
theorem or_fdiv : OpR X (binaryOp .FloorDiv) (R2of X.K .fdiv) := by
  refine OpR.pick fun pins s σ H x y Q I h => ?_
  obtain ⟨F, ps, r, e, hb, ho, q⟩ := h
  obtain ⟨p, t, rfl, h1, h2⟩ := hb.two
  simp only [opSem] at ho
  unfold fdivP at ho
  split at ho
  · rename_i a b hab
    cases hab
    split at ho
    · rename_i hm
      cases ho
      exact ⟨_, op_fdivA, _, _, h1, h2, hm, q _ _ .int⟩
    · split at ho
      · rename_i hm
        cases ho
        exact ⟨_, op_fdivM, _, _, h1, h2, hm, q _ _ .int⟩
      · cases ho
  · cases ho
theorem or_mod : OpR X (binaryOp .Mod) (R2of X.K .mod) := by
  refine OpR.imp op_mod fun x y H Q h => ?_
  obtain ⟨F, ps, r, e, hb, ho, q⟩ := h
  obtain ⟨p, t, rfl, h1, h2⟩ := hb.two
  simp only [opSem] at ho
  unfold modP at ho
  split at ho
  · rename_i a b hab
    cases hab
    split at ho
    · rename_i hm
      cases ho
      exact ⟨_, _, h1, h2, hm, q _ _ .int⟩
    · cases ho
  · cases ho
theorem or_pow : OpR X (binaryOp .Pow) (R2of X.K .pow) := by
  refine OpR.imp op_pow fun x y H Q h => ?_
  obtain ⟨F, ps, r, e, hb, ho, q⟩ := h
  obtain ⟨p, t, rfl, h1, h2⟩ := hb.two
  simp only [opSem] at ho
  unfold powP at ho
  split at ho
  · rename_i a b hab
    cases hab
    split at ho
    · rename_i hm
      cases ho
      exact ⟨_, _, h1, h2, hm, q _ _ .int⟩
    · cases ho
  · cases ho
end
end Br
set_option maxHeartbeats 1000000
/-! BrD3: built-in functions, subscripts. -/
namespace Br
open PySem PySem.Spec PyProof.Rows L2

section
variable {X : Cx}
abbrev RCof (K : PySem.W.Frag) (o : Op) : List V → Hp → VK → Prop := fun xs H Q => rOp K o xs H Q
theorem rOp_one {K : PySem.W.Frag} {o : Op} {xs : List V} {H : Hp} {Q : VK} (h : rOp K o xs H Q) (h1 : ∀ ps, ps.length ≠ 1 → opSem o ps = none) (hr : o.raw = false := by rfl) : ∃ x F p r, xs = [x] ∧ Same F H ∧ RepB K F H p x ∧ opSem o [p] = some r ∧ ∀ v H', ResR K F H o.new r v H' → Q v H' := by
  obtain ⟨F, ps, r, e, hb, ho, q⟩ := h
  rw [hr] at hb
  have hl : ps.length = 1 := by
    by_cases h : ps.length = 1
    · exact h
    · rw [h1 ps h] at ho; cases ho
  match ps, hl with
  | [p], _ =>
    obtain ⟨v, r', rfl, h2, h3⟩ := hb
    rw [show r' = [] from h3]
    exact ⟨v, F, p, r, rfl, e, h2, ho, q⟩
theorem len1 {f : List PV → Option PV} (h0 : f [] = none) (h2 : ∀ a b c, f (a :: b :: c) = none) : ∀ ps : List PV, ps.length ≠ 1 → f ps = none
  | [], _ => h0
  | [a], h => absurd rfl h
  | a :: b :: c, _ => h2 a b c
theorem cr_lenD : CallR X (.builtin "len") (fun xs H Q => ∃ a kvs, xs = [.ref a] ∧ Rd H a (.dK kvs) ∧ Q (.int kvs.length) H) := by
  intro pins s σ H xs us Q I r h
  obtain ⟨a, kvs, rfl, e, q⟩ := h
  rw [Vals.ref1 r]
  exact d_len I e fun t s' I' => ⟨.int _, H, I', ⟨_, rfl⟩, q⟩
theorem cr_len : CallR X (.builtin "len") (RCof X.K .len) := by
  refine CallR.pick fun pins s σ H xs Q I h => ?_
  obtain ⟨x, F, p, r, rfl, e, h1, ho, q⟩ := rOp_one h (len1 rfl fun a b c => by cases a <;> rfl)
  simp only [opSem] at ho
  unfold lenP at ho
  split at ho
  · rename_i l hl
    cases hl
    cases ho
    obtain ⟨c, xs, rfl, hc, rc⟩ := h1
    exact ⟨_, call_len, _, _, rfl, .inl ⟨xs, hc.sql, rfl⟩, by rw [← rc.length]; exact q _ _ .int⟩
  · rename_i l hl
    cases hl
    cases ho
    obtain ⟨c, xs, rfl, hc, rc⟩ := h1
    exact ⟨_, call_len, _, _, rfl, .inr ⟨xs, Same.sqt e hc, rfl⟩, by rw [← rc.length]; exact q _ _ .int⟩
  · rename_i ks vs hl
    cases hl
    cases ho
    obtain ⟨c, xs, rfl, hc, hl, _, rc⟩ := h1
    refine ⟨_, cr_lenD, c, ks.zip xs, rfl, hc, ?_⟩
    rw [List.length_zip, ← hl, Nat.min_self]
    exact q _ _ .int
  · rename_i y hl
    cases hl
    split at ho
    · rename_i hz
      cases ho
      rw [show x = V.str y from h1]
      exact ⟨_, call_len, _, _, rfl, ⟨lim_line hz, rfl⟩, q _ _ .int⟩
    · cases ho
  · cases ho
theorem cr_abs : CallR X (.builtin "abs") (RCof X.K .abs) := by
  refine CallR.imp call_abs fun xs H Q h => ?_
  obtain ⟨x, F, p, r, rfl, e, h1, ho, q⟩ := rOp_one h (len1 rfl fun a b c => by cases a <;> rfl)
  simp only [opSem] at ho
  unfold absP at ho
  split at ho
  · rename_i l hl
    cases hl
    cases ho
    rw [show x = V.int l from h1]
    exact ⟨l, rfl, q _ _ .int⟩
  · cases ho
theorem fold_max : ∀ (ns : List Int) (n : Int), (ns.foldl (fun a b => if b > a then b else a) n ∈ n :: ns) ∧ ∀ y ∈ n :: ns, y ≤ ns.foldl (fun a b => if b > a then b else a) n
  | [], n => ⟨by simp, by simp⟩
  | m :: ns, n => by
    rw [List.foldl_cons]
    by_cases hmn : m > n
    · rw [if_pos hmn]
      obtain ⟨h1, h2⟩ := fold_max ns m
      refine ⟨by rcases List.mem_cons.mp h1 with h | h <;> simp [h], fun y hy => ?_⟩
      have h3 := h2 m (by simp)
      rcases List.mem_cons.mp hy with rfl | hy
      · omega
      · exact h2 y hy
    · rw [if_neg hmn]
      obtain ⟨h1, h2⟩ := fold_max ns n
      refine ⟨by rcases List.mem_cons.mp h1 with h | h <;> simp [h], fun y hy => ?_⟩
      have h3 := h2 n (by simp)
      rcases List.mem_cons.mp hy with rfl | hy
      · exact h3
      · rcases List.mem_cons.mp hy with rfl | hy
        · omega
        · exact h2 y (by simp [hy])
theorem cr_int1 : CallR X (.type "int") (RCof X.K .int1) := by
  refine CallR.imp call_int1 fun xs H Q h => ?_
  obtain ⟨x, F, p, r, rfl, e, h1, ho, q⟩ := rOp_one h (len1 rfl fun a b c => by cases a <;> rfl)
  simp only [opSem] at ho
  unfold int1P at ho
  split at ho
  · rename_i a hl
    cases hl
    cases ho
    rw [show x = V.int a from h1]
    exact .inl ⟨a, rfl, q _ _ .int⟩
  · rename_i a hl
    cases hl
    cases ho
    rw [show x = V.bl a from h1]
    exact .inr ⟨a, rfl, q _ _ .int⟩
  · cases ho
/-! ### subscripts -/
theorem atI_rep {K : PySem.W.Frag} {F : Hp} {l : List PV} {xs : List V} {i : Int} {p : PV} (h : Reps K F l xs) (e : atI l i = some p) : ∃ x, atI xs i = some x ∧ Rep K F p x := by
  unfold atI at e ⊢
  obtain ⟨j, h1, h2⟩ := Option.bind_eq_some_iff.mp e
  obtain ⟨x, h3, h4⟩ := h.get h2
  exact ⟨x, by rw [← h.length, h1]; exact h3, h4⟩
theorem IxR.pick {r' : R2} (h : ∀ (pins : List (Addr × Obj)) (s : Shared) (σ : L2.St) (H : Hp) (x y : V) (Q : VK), Inv X pins σ H s → r' x y H Q → ∃ r, IxR X r ∧ r x y H Q) : IxR X r' :=
  fun value slice pins s σ H x y v u Q I rx ry q => by
    obtain ⟨r, h1, h2⟩ := h pins s σ H x y Q I q
    exact h1 value slice pins s σ H x y v u Q I rx ry h2
end
end Br
set_option maxHeartbeats 1000000
/-! BrD4: subscripts, slices, dicts, isinstance, order. -/
namespace Br
open PySem PySem.Spec PyProof.Rows L2

/-! ### dicts -/
section
variable {K : PySem.W.Frag} {F : Hp}
theorem find_some {κ : Type} [DecidableEq κ] {k : κ} {p : PV} : ∀ {ks : List κ} {l : List PV} {xs : List V}, Reps K F l xs → findK k ks l = some p → ∃ v, valV (ks.zip xs) k = some v ∧ Rep K F p v
  | [], _, _, _, h => by cases h
  | c :: ks, [], _, _, h => by cases h
  | c :: ks, q :: l, _, r, h => by
    obtain ⟨x, xs, rfl, h1, h2⟩ := r
    unfold findK at h
    rw [List.zip_cons_cons]
    by_cases e : k = c
    · rw [if_pos e] at h
      cases h
      exact ⟨x, valV_pos e.symm, h1⟩
    · rw [if_neg e] at h
      obtain ⟨v, h3, h4⟩ := find_some h2 h
      exact ⟨v, by rw [valV_neg (fun z => e z.symm)]; exact h3, h4⟩
end

section
variable {X : Cx}
/-- d[y] as a subscript by values -/
theorem ix_dict (hu : X.A.units + 1 < cLine) : IxR X (fun x y H Q => ∃ a v, x = .ref a ∧ DGet H a y (some v) ∧ Q v H) := by
  intro value slice pins s σ H x y v u Q I rx ry h hs
  obtain ⟨a, w, rfl, g, q⟩ := h
  cases rx
  have hT := dict_typeIs I g
  unfold subscriptTail
  refine wpAny_bind ?_
  rw [getitemInPython_of_ne hT.not_modules]
  refine wpAny_bind (wpAny_specialOf hT PySem.F.slot_dict_getitem.lookup ?_)
  have fin : wpAny (model X.prog X.w) X.A (subscripted slice false (.ref a) u) (fun r s₃ => wpAny (model X.prog X.w) X.A (letTemporaryGo value (.ref a) r >>= fun _ => pure r) (EP X pins σ Q) X.xe s₃) X.xe s := by
    rw [hs]
    exact wpAny_operating (d_getItem hu I g ry fun w' s' I' rw' => wpAny_bind (wpAny_letTemporaryGo (wpAny_pure ⟨w, H, I', rw', q⟩)))
  first
    | exact wpAny_pure (wpAny_bind fin)
    | exact wpAny_bind (wpAny_pure (wpAny_bind fin))
    | exact wpAny_bind fin
theorem ir_idx (hu : X.A.units + 1 < cLine) : IxR X (R2of X.K .idx) := by
  refine IxR.pick fun pins s σ H x y Q I h => ?_
  obtain ⟨F, ps, r, e, hb, ho, q⟩ := h
  obtain ⟨p, t, rfl, h1, h2⟩ := hb.two
  simp only [opSem] at ho
  unfold idxP at ho
  split at ho
  · rename_i a b hab
    cases hab
    obtain ⟨c, xs, rfl, hc, rc⟩ := h1
    obtain ⟨v, hv, rv⟩ := atI_rep rc ho
    exact ⟨_, ix_list, c, xs, b, v, rfl, h2, hc.sql, hv, q _ _ (.any rv)⟩
  · rename_i a b hab
    cases hab
    obtain ⟨c, xs, rfl, hc, rc⟩ := h1
    obtain ⟨v, hv, rv⟩ := atI_rep rc ho
    exact ⟨_, ix_tup, c, xs, b, v, rfl, h2, Same.sqt e hc, hv, q _ _ (.any rv)⟩
  · rename_i ks vs k hab
    cases hab
    obtain ⟨c, xs, rfl, hc, hl, nd, rc⟩ := h1
    obtain ⟨v, hv, rv⟩ := find_some rc ho
    rw [show y = V.int k from h2]
    exact ⟨_, ix_dict hu, c, v, rfl, .inl ⟨_, Sum.inl k, hc, rfl, hv.symm⟩, q _ _ (.any rv)⟩
  · rename_i ks vs k hab
    cases hab
    obtain ⟨c, xs, rfl, hc, hl, nd, rc⟩ := h1
    obtain ⟨v, hv, rv⟩ := find_some rc ho
    rw [show y = V.str k from h2]
    exact ⟨_, ix_dict hu, c, v, rfl, .inl ⟨_, Sum.inr k, hc, rfl, hv.symm⟩, q _ _ (.any rv)⟩
  · cases ho
/-! ### slices -/
theorem cut_all {l : List PV} {a b : Option Int} (h : (cutP l a b).length = l.length) : HT.sIx l.length 0 a = 0 ∧ HT.sIx l.length l.length b = l.length := by
  unfold cutP at h
  rw [List.length_take, List.length_drop] at h
  have h1 := HT.sIx_le l.length 0 (Nat.zero_le _) a
  have h2 := HT.sIx_le l.length l.length (Nat.le_refl _) b
  omega
theorem Reps.cut {K : PySem.W.Frag} {F : Hp} {l : List PV} {xs : List V} (h : Reps K F l xs) (lo hi : Option Int) : Reps K F (cutP l lo hi) (cutV xs lo hi) := by
  unfold cutP cutV
  rw [h.length]
  exact (h.drop _).take _
theorem cutV_all {xs : List V} {lo hi : Option Int} (h : HT.sIx xs.length 0 lo = 0 ∧ HT.sIx xs.length xs.length hi = xs.length) : cutV xs lo hi = xs := by
  unfold cutV
  rw [h.1, h.2]
  simp
theorem SlR.pick {r' : V → Option Int → Option Int → Hp → VK → Prop} (h : ∀ (pins : List (Addr × Obj)) (s : Shared) (σ : L2.St) (H : Hp) (x : V) (lo hi : Option Int) (Q : VK), Inv X pins σ H s → r' x lo hi H Q → ∃ r, SlR X r ∧ r x lo hi H Q) : SlR X r' :=
  fun pins s σ H x v vl vu lo hi sl Q I rx hs pl pu q => by
    obtain ⟨r, h1, h2⟩ := h pins s σ H x lo hi Q I q
    exact h1 pins s σ H x v vl vu lo hi sl Q I rx hs pl pu h2
/-- the bounds of a slice as they are handed -/
def slA (o : Option Int) : List V := match o with
  | some i => [.int i]
  | none => []
theorem slcPart_ok {K : PySem.W.Frag} {F H : Hp} {b : Bool} {ps r : List PV} {vs : List V} {o : Option Int} (h : slcPart b ps = some (o, r)) (hb : RepRs K F H ps vs) : ∃ ws, vs = slA o ++ ws ∧ RepRs K F H r ws ∧ o.isSome = b := by
  unfold slcPart at h
  cases b with
  | true =>
    rw [if_pos rfl] at h
    split at h
    · rename_i i r' 
      cases h
      obtain ⟨v, w, rfl, h1, h2⟩ := hb
      rw [show v = V.int i from h1]
      exact ⟨w, rfl, h2, rfl⟩
    · cases h
  | false =>
    rw [if_neg Bool.false_ne_true] at h
    cases h
    exact ⟨vs, rfl, hb, rfl⟩
theorem sr_slc : SlR X (fun x lo hi H Q => rOp X.K (.slc lo.isSome hi.isSome) (x :: (slA lo ++ slA hi)) H Q) := by
  refine SlR.pick fun pins s σ H x lo hi Q I h => ?_
  obtain ⟨F, ps, r, e, hb, ho, q⟩ := h
  cases ps with
  | nil => cases hb
  | cons p ps =>
    obtain ⟨v, w, ev, h1, h2⟩ := hb
    cases ev
    simp only [opSem] at ho
    unfold slcP at ho
    dsimp only at ho
    split at ho
    · rename_i a as' ha
      obtain ⟨ws, e1, h3, e2⟩ := slcPart_ok ha h2
      split at ho
      · rename_i b hb2
        obtain ⟨ws2, e3, h4, e4⟩ := slcPart_ok hb2 h3
        have e5 : ws2 = [] := h4
        subst e5
        rw [e3, List.append_nil] at e1
        have ea : a = lo := by
          cases lo with
          | none => cases a with
            | none => rfl
            | some i => cases e2
          | some i => cases a with
            | none => cases e2
            | some j =>
              have : V.int i = V.int j := by
                have := congrArg List.head? e1
                simpa [slA] using this
              cases this
              rfl
        subst ea
        have eb : b = hi := by
          have e6 : slA hi = slA b := List.append_cancel_left e1
          cases hi with
          | none => cases b with
            | none => rfl
            | some i => cases e4
          | some i => cases b with
            | none => cases e4
            | some j => cases e6; rfl
        subst eb
        split at ho
        · rename_i l
          cases ho
          obtain ⟨c, xs, rfl, hc, rc⟩ := h1
          exact ⟨_, sl_list, c, xs, rfl, hc.sql, fun p hp => q _ _ (.lst hp (rc.cut _ _))⟩
        · rename_i l
          cases ho
          obtain ⟨c, xs, rfl, hc, rc⟩ := h1
          refine ⟨_, sl_tupA, c, xs, rfl, .inl (.inl (e _ _ hc)), fun hw => ?_, fun hw p hp => q _ _ (.tup hp (rc.cut _ _))⟩
          have := rc.cut a b
          rw [cutV_all hw] at this
          exact q _ _ (.tup0 hc this)
        · rename_i l
          split at ho
          · rename_i he
            cases ho
            obtain ⟨c, xs, o1, rfl, hc, hd, rc⟩ := h1
            have hw0 : HT.sIx xs.length 0 a = 0 ∧ HT.sIx xs.length xs.length b = xs.length := by have := cut_all he; rwa [rc.length] at this
            exact ⟨_, sl_tupA, c, xs, rfl, .inl (.inr ⟨o1, e _ _ hc⟩), fun hw => q _ _ (.xt0 hc hd rc), fun hw p hp => absurd hw0 hw⟩
          · rename_i hne
            cases ho
            obtain ⟨c, xs, o1, rfl, hc, hd, rc⟩ := h1
            refine ⟨_, sl_tupA, c, xs, rfl, .inl (.inr ⟨o1, e _ _ hc⟩), fun hw => ?_, fun hw p hp => q _ _ (.tup hp (rc.cut _ _))⟩
            have := rc.cut a b
            rw [cutV_all hw] at this
            exact absurd (by rw [this.length, rc.length]) hne
        · rename_i z
          split at ho
          · rename_i hz
            cases ho
            have h1 : x = .str z := h1
            exact ⟨_, sl_str, z, h1, lim_line hz, q _ _ .str⟩
          · cases ho
        · cases ho
      · cases ho
    · cases ho
end
end Br
set_option maxHeartbeats 1000000
/-! BrD5: sums of tuples, order, isinstance, get. -/
namespace Br
open PySem PySem.Spec PyProof.Rows L2

section
variable {prog : Program} {w : World} {A : Around} {E : Value → Shared → Prop} {s : Shared} {l : Addr} {its : List Value} {ns : List Int}
end

/-! ### order of tuples -/
section
variable {X : Cx} {pins : List (Addr × Obj)} {σ : L2.St} {H : Hp} {s : Shared}
def ltB (a b : PV) : Bool := (ltP a b).getD false
theorem lexAt_shift {e r : Nat → Bool} {z : Bool} : ∀ (k i : Nat), Ob.lexAt e r z (i + 1) k = Ob.lexAt (fun j => e (j + 1)) (fun j => r (j + 1)) z i k
  | 0, _ => rfl
  | k + 1, i => by
    rw [Ob.lexAt_succ, Ob.lexAt_succ, lexAt_shift k (i + 1)]
/-- each unequal pair can be compared -/
def cmpOk : List PV → List PV → Prop
  | x :: xs, y :: ys => (eqP x y = true ∨ (ltP x y).isSome = true) ∧ cmpOk xs ys
  | _, _ => True
theorem ltPs_cons {x y : PV} {xs ys : List PV} {b : Bool} (h : ltPs (x :: xs) (y :: ys) = some b) : ∃ r, ltPs xs ys = some r ∧ (if eqP x y = true then some r else ltP x y) = some b := by
  unfold ltPs at h
  split at h
  · rename_i r hr
    exact ⟨r, hr, h⟩
  · cases h
theorem ltPs_cmp : ∀ {l m : List PV} {b : Bool}, ltPs l m = some b → cmpOk l m
  | [], _, _, _ => trivial
  | _ :: _, [], _, _ => trivial
  | x :: xs, y :: ys, b, h => by
    obtain ⟨r, h1, h2⟩ := ltPs_cons h
    refine ⟨?_, ltPs_cmp h1⟩
    by_cases e : eqP x y = true
    · exact .inl e
    · rw [if_neg e] at h2
      exact .inr (by rw [h2]; rfl)
theorem ltPs_lex : ∀ {l m : List PV} {b : Bool}, ltPs l m = some b → Ob.lexAt (fun j => eqP (l.getD j .non) (m.getD j .non)) (fun j => ltB (l.getD j .non) (m.getD j .non)) (decide (l.length < m.length)) 0 (min l.length m.length) = b
  | [], [], b, h => by cases h; rfl
  | [], _ :: _, b, h => by cases h; simp [Ob.lexAt_zero]
  | _ :: _, [], b, h => by cases h; simp [Ob.lexAt_zero]
  | x :: xs, y :: ys, b, h => by
    obtain ⟨r, h1, h2⟩ := ltPs_cons h
    rw [show min (x :: xs).length (y :: ys).length = min xs.length ys.length + 1 by simp only [List.length_cons]; omega, Ob.lexAt_succ]
    by_cases e : eqP x y = true
    · rw [if_pos e] at h2
      cases h2
      rw [if_pos (by simpa using e), lexAt_shift]
      have := ltPs_lex h1
      simpa using this
    · rw [if_neg e] at h2
      rw [if_neg (by simpa using e)]
      simp [ltB, h2]
mutual
theorem lt_run (I : Inv X pins σ H s) : ∀ (p q : PV) (n : Nat) (A : Around) (x y : V) (u v : Value) (b : Bool), A.units + n + 70 < cLine → p.isD n = true → q.isD n = true → ltP p q = some b → RepA X.K H p x → RepA X.K H q y → RelV x u → RelV y v → Ob.RcOp .Lt A s u v b
  | .int a, .int c, _, A, x, y, u, v, b, _, _, _, h, h1, h2, r1, r2 => by
    cases h
    rw [show x = V.int a from h1] at r1
    rw [show y = V.int c from h2] at r2
    obtain ⟨t, rfl⟩ := r1
    obtain ⟨t', rfl⟩ := r2
    exact Ob.RcOp.lt_int _ _ _ _
  | .tup l, .tup m, n, A, x, y, u, v, b, hu, d1, d2, h, h1, h2, r1, r2 => by
    have h : ltPs l m = some b := h
    obtain ⟨a, xs, rfl, ha, ra⟩ := h1
    obtain ⟨c, ys, rfl, hc, rc⟩ := h2
    cases r1
    cases r2
    obtain ⟨its, v1, t1, z1⟩ := I.tuple ha
    obtain ⟨its2, v2, t2, z2⟩ := I.tuple hc
    have e1 := v1.length
    have e2 := v2.length
    have e3 := ra.length
    have e4 := rc.length
    cases n with
    | zero => simp [PV.isD] at d1
    | succ n =>
      unfold PV.isD at d1 d2
      have R := Ob.RcOp.tuples_lt (A := A) (s := s) (e := fun j => eqP (l.getD j .non) (m.getD j .non)) (r := fun j => ltB (l.getD j .non) (m.getD j .non)) t1 t2 (by omega)
        (fun j h3 h4 => ?_) (fun j h3 h4 h5 => ?_)
      · rw [List.size_toArray, List.size_toArray, ← e1, ← e2, ← e3, ← e4, ltPs_lex h] at R
        exact R
      · simp at h3 h4
        have hj : j < l.length := by omega
        have hj2 : j < m.length := by omega
        obtain ⟨x1, g1, g2⟩ := ra.get (List.getElem?_eq_getElem hj)
        obtain ⟨y1, k1, k2⟩ := rc.get (List.getElem?_eq_getElem hj2)
        obtain ⟨u1, g3, g4⟩ := v1.get g1
        obtain ⟨w1, k3, k4⟩ := v2.get k1
        have f1 := List.all_eq_true.mp d1 _ (List.getElem_mem hj)
        have f2 := List.all_eq_true.mp d2 _ (List.getElem_mem hj2)
        obtain ⟨as, q1⟩ := Dp.reads I _ _ _ (Rep.dp0 n _ _ f1 g2) g4
        obtain ⟨bs, q2⟩ := Dp.reads I _ _ _ (Rep.dp0 n _ _ f2 k2) k4
        have f3 := depth_d n _ f1
        rw [show its.toArray[j] = u1 by
          have := List.getElem?_eq_some_iff.mp g3
          simpa using this.2, show its2.toArray[j] = w1 by
          have := List.getElem?_eq_some_iff.mp k3
          simpa using this.2]
        rw [show l.getD j .non = l[j] by simp [List.getD, hj], show m.getD j .non = m[j] by simp [List.getD, hj2]]
        exact SeqAt.eqAt_reads _ _ _ _ _ _ _ _ q1 q2 (canLay_d n _ f1) (canLay_d n _ f2) (by show A.units + 1 + _ < _; omega)
      · simp at h3 h4
        exact lt_runs I l m n A.in1 xs ys its its2 (by show A.units + 1 + n + 70 < _; omega) d1 d2 (ltPs_cmp h) ra rc v1 v2 j (by omega) (by omega) h5
  | .non, _, _, _, _, _, _, _, _, _, _, _, h, _, _, _, _ => by cases h
  | .bl _, _, _, _, _, _, _, _, _, _, _, _, h, _, _, _, _ => by cases h
  | .str _, _, _, _, _, _, _, _, _, _, _, _, h, _, _, _, _ => by cases h
  | .ty _, _, _, _, _, _, _, _, _, _, _, _, h, _, _, _, _ => by cases h
  | .exc _, _, _, _, _, _, _, _, _, _, _, _, h, _, _, _, _ => by cases h
  | .lst _, _, _, _, _, _, _, _, _, _, _, _, h, _, _, _, _ => by cases h
  | .xt _, _, _, _, _, _, _, _, _, _, _, _, h, _, _, _, _ => by cases h
  | .dK _ _, _, _, _, _, _, _, _, _, _, _, _, h, _, _, _, _ => by cases h
  | .dT _ _, _, _, _, _, _, _, _, _, _, _, _, h, _, _, _, _ => by cases h
  | .dX _ _, _, _, _, _, _, _, _, _, _, _, _, h, _, _, _, _ => by cases h
  | .obj _ _ _, _, _, _, _, _, _, _, _, _, _, _, h, _, _, _, _ => by cases h
  | .gt _, _, _, _, _, _, _, _, _, _, _, _, h, _, _, _, _ => by cases h
  | .int _, .non, _, _, _, _, _, _, _, _, _, _, h, _, _, _, _ => by cases h
  | .int _, .bl _, _, _, _, _, _, _, _, _, _, _, h, _, _, _, _ => by cases h
  | .int _, .str _, _, _, _, _, _, _, _, _, _, _, h, _, _, _, _ => by cases h
  | .int _, .ty _, _, _, _, _, _, _, _, _, _, _, h, _, _, _, _ => by cases h
  | .int _, .exc _, _, _, _, _, _, _, _, _, _, _, h, _, _, _, _ => by cases h
  | .int _, .lst _, _, _, _, _, _, _, _, _, _, _, h, _, _, _, _ => by cases h
  | .int _, .xt _, _, _, _, _, _, _, _, _, _, _, h, _, _, _, _ => by cases h
  | .int _, .tup _, _, _, _, _, _, _, _, _, _, _, h, _, _, _, _ => by cases h
  | .int _, .dK _ _, _, _, _, _, _, _, _, _, _, _, h, _, _, _, _ => by cases h
  | .int _, .dT _ _, _, _, _, _, _, _, _, _, _, _, h, _, _, _, _ => by cases h
  | .int _, .dX _ _, _, _, _, _, _, _, _, _, _, _, h, _, _, _, _ => by cases h
  | .int _, .obj _ _ _, _, _, _, _, _, _, _, _, _, _, h, _, _, _, _ => by cases h
  | .int _, .gt _, _, _, _, _, _, _, _, _, _, _, h, _, _, _, _ => by cases h
  | .tup _, .non, _, _, _, _, _, _, _, _, _, _, h, _, _, _, _ => by cases h
  | .tup _, .bl _, _, _, _, _, _, _, _, _, _, _, h, _, _, _, _ => by cases h
  | .tup _, .str _, _, _, _, _, _, _, _, _, _, _, h, _, _, _, _ => by cases h
  | .tup _, .ty _, _, _, _, _, _, _, _, _, _, _, h, _, _, _, _ => by cases h
  | .tup _, .exc _, _, _, _, _, _, _, _, _, _, _, h, _, _, _, _ => by cases h
  | .tup _, .lst _, _, _, _, _, _, _, _, _, _, _, h, _, _, _, _ => by cases h
  | .tup _, .xt _, _, _, _, _, _, _, _, _, _, _, h, _, _, _, _ => by cases h
  | .tup _, .int _, _, _, _, _, _, _, _, _, _, _, h, _, _, _, _ => by cases h
  | .tup _, .dK _ _, _, _, _, _, _, _, _, _, _, _, h, _, _, _, _ => by cases h
  | .tup _, .dT _ _, _, _, _, _, _, _, _, _, _, _, h, _, _, _, _ => by cases h
  | .tup _, .dX _ _, _, _, _, _, _, _, _, _, _, _, h, _, _, _, _ => by cases h
  | .tup _, .obj _ _ _, _, _, _, _, _, _, _, _, _, _, h, _, _, _, _ => by cases h
  | .tup _, .gt _, _, _, _, _, _, _, _, _, _, _, h, _, _, _, _ => by cases h
theorem lt_runs (I : Inv X pins σ H s) : ∀ (l m : List PV) (n : Nat) (A : Around) (xs ys : List V) (us vs : List Value), A.units + n + 70 < cLine → l.all (PV.isD n) = true → m.all (PV.isD n) = true → cmpOk l m → Reps X.K H l xs → Reps X.K H m ys → Vals xs us → Vals ys vs →
    ∀ j, (h1 : j < us.length) → (h2 : j < vs.length) → eqP (l.getD j .non) (m.getD j .non) = false → Ob.RcOp .Lt A s us[j] vs[j] (ltB (l.getD j .non) (m.getD j .non))
  | [], _, _, _, xs, _, us, _, _, _, _, _, r, _, v1, _, j, h1, _, _ => by
    rw [show xs = [] from r] at v1
    cases v1
    exact absurd h1 (Nat.not_lt_zero j)
  | _ :: _, [], _, _, _, ys, _, vs, _, _, _, _, _, r, _, v2, j, _, h2, _ => by
    rw [show ys = [] from r] at v2
    cases v2
    exact absurd h2 (Nat.not_lt_zero j)
  | p :: l, q :: m, n, A, xs, ys, us, vs, hu, d1, d2, ok, r1, r2, v1, v2, j, h1, h2, ne => by
    obtain ⟨x, xs, rfl, a1, a2⟩ := r1
    obtain ⟨y, ys, rfl, b1, b2⟩ := r2
    rw [List.all_cons, Bool.and_eq_true] at d1 d2
    cases v1 with
    | cons c1 c2 =>
      cases v2 with
      | cons k1 k2 =>
        unfold cmpOk at ok
        cases j with
        | zero =>
          have ne' : eqP p q = false := by simpa using ne
          have ok1 := ok.1
          rw [ne'] at ok1
          obtain ⟨b, hb⟩ := Option.isSome_iff_exists.mp (ok1.resolve_left Bool.false_ne_true)
          have := lt_run I p q n A x y _ _ b hu d1.1 d2.1 hb a1.toA b1.toA c1 k1
          simpa [ltB, hb] using this
        | succ j =>
          have := lt_runs I l m n A xs ys _ _ hu d1.2 d2.2 ok.2 a2 b2 c2 k2 j (by simpa using h1) (by simpa using h2) (by simpa using ne)
          simpa using this
end
end
section
variable {X : Cx}
theorem or_lt (hu : X.A.units + 131 < cLine) : OpR X (compareOp .Lt) (R2of X.K .lt) := by
  intro pins s σ H x y v u Q I rx ry h
  obtain ⟨F, ps, r, e, hb, ho, q⟩ := h
  obtain ⟨p, t, rfl, h1, h2⟩ := hb.two
  simp only [opSem] at ho
  unfold ltOP at ho
  split at ho
  · rename_i a b hab
    cases hab
    cases ho
    exact op_lt pins s σ H x y v u Q I rx ry ⟨a, b, h1, h2, q _ _ .bl⟩
  · rename_i a b hab
    cases hab
    split at ho
    · rename_i hd
      obtain ⟨c, hc, rfl⟩ := Option.map_eq_some_iff.mp ho
      have R := lt_run I (.tup a) (.tup b) 60 X.A x y v u c (by omega) hd.1 hd.2 hc (h1.rep e) (h2.rep e) rx ry
      have z : wpAny (model X.prog X.w) X.A (compareOp .Lt v u) (EP X pins σ Q) X.xe s := R X.prog X.w X.xe (EP X pins σ Q) ⟨.bl _, H, I, rfl, q _ _ .bl⟩
      exact z
    · cases ho
  · cases ho
theorem lexAt_geI : ∀ ns ms : List Int, Ob.lexAt (fun j => decide (ns.getD j 0 = ms.getD j 0)) (fun j => decide (ms.getD j 0 ≤ ns.getD j 0)) (decide (ms.length ≤ ns.length)) 0 (min ns.length ms.length) = leI ms ns
  | [], [] => by simp [Ob.lexAt_zero, leI]
  | [], y :: ys => by simp [Ob.lexAt_zero, leI]
  | x :: xs, [] => by simp [Ob.lexAt_zero, leI]
  | x :: xs, y :: ys => by
    have e : min (x :: xs).length (y :: ys).length = min xs.length ys.length + 1 := by simp [Nat.succ_min_succ]
    rw [e, Ob.lexAt_succ, lexAt_shift]
    have ih := lexAt_geI xs ys
    have e2 : decide ((y :: ys).length ≤ (x :: xs).length) = decide (ys.length ≤ xs.length) := by simp
    rw [e2]
    simp only [List.getD_cons_succ, List.getD_cons_zero]
    rw [ih]
    have e3 : leI (y :: ys) (x :: xs) = if y = x then leI ys xs else decide (y ≤ x) := rfl
    rw [e3]
    by_cases h : x = y
    · simp [h]
    · have h' : ¬ y = x := fun z => h z.symm
      simp [h, h']
theorem op_geT (hu : X.A.units < cLine) : OpR X (compareOp .GtE) (fun x y H Q => ∃ (a b : Addr) (ns ms : List Int), x = .ref a ∧ y = .ref b ∧ SqT X.K H a (ns.map V.int) ∧ SqT X.K H b (ms.map V.int) ∧ Q (.bl (leI ms ns)) H) := by
  intro pins s σ H x y v u Q I rx ry h
  obtain ⟨a, b, ns, ms, rfl, rfl, ha, hb, q⟩ := h
  cases rx
  cases ry
  obtain ⟨its, r1, p1, _⟩ := I.tuple ha
  obtain ⟨its2, r2, p2, _⟩ := I.tuple hb
  have i1 : IntsAre its ns := Vals.ints r1
  have i2 : IntsAre its2 ms := Vals.ints r2
  have e1 : its.toArray.size = ns.length := by rw [List.size_toArray]; exact i1.length
  have e2 : its2.toArray.size = ms.length := by rw [List.size_toArray]; exact i2.length
  have g1 : ∀ j (_ : j < its.toArray.size), ∃ t, its.toArray[j] = .int (ns.getD j 0) t := fun j h1 => PyProof.Rows.IntsAre.int_at i1 _ _ (by simp at h1; simp [h1])
  have g2 : ∀ j (_ : j < its2.toArray.size), ∃ t, its2.toArray[j] = .int (ms.getD j 0) t := fun j h1 => PyProof.Rows.IntsAre.int_at i2 _ _ (by simp at h1; simp [h1])
  have R := Ob.RcOp.tuples_ge (A := X.A) (s := s) (e := fun j => decide (ns.getD j 0 = ms.getD j 0)) (r := fun j => decide (ms.getD j 0 ≤ ns.getD j 0)) p1 p2 hu (fun j h1 h2 => by
    obtain ⟨t, et⟩ := g1 j h1
    obtain ⟨t', et'⟩ := g2 j h2
    rw [et, et', show decide (ns.getD j 0 = ms.getD j 0) = (ns.getD j 0 == ms.getD j 0) from Bool.eq_iff_iff.mpr (by simp)]
    exact SeqAt.EqAt.int_int _ _ _ _) (fun j h1 h2 _ => by
    obtain ⟨t, et⟩ := g1 j h1
    obtain ⟨t', et'⟩ := g2 j h2
    rw [et, et']
    exact Ob.RcOp.ge_int _ _ _ _)
  rw [e1, e2, show decide (ns.length ≥ ms.length) = decide (ms.length ≤ ns.length) from rfl, lexAt_geI] at R
  have z : wpAny (model X.prog X.w) X.A (compareOp .GtE (.ref a) (.ref b)) (EP X pins σ Q) X.xe s := R X.prog X.w X.xe (EP X pins σ Q) ⟨.bl _, H, I, rfl, q⟩
  exact z
theorem or_ge (hu : X.A.units + 131 < cLine) : OpR X (compareOp .GtE) (R2of X.K .ge) := by
  refine OpR.pick fun pins s σ H x y Q I h => ?_
  obtain ⟨F, ps, r, e, hb, ho, q⟩ := h
  obtain ⟨p, t, rfl, h1, h2⟩ := hb.two
  simp only [opSem] at ho
  unfold geOP at ho
  split at ho
  · rename_i a b hab
    cases hab
    cases ho
    exact ⟨_, op_ge, _, _, h1, h2, q _ _ .bl⟩
  · rename_i a b hab
    cases hab
    obtain ⟨ns, hn, ho⟩ := Option.bind_eq_some_iff.mp (show (intsOf a).bind _ = some r from ho)
    obtain ⟨ms, hm, rfl⟩ := Option.map_eq_some_iff.mp ho
    rw [intsOf_eq hn] at h1
    rw [intsOf_eq hm] at h2
    obtain ⟨c, xs, rfl, hc, rc⟩ := h1
    obtain ⟨d, ys, rfl, hd, rd⟩ := h2
    rw [rc.ints] at hc
    rw [rd.ints] at hd
    exact ⟨_, op_geT (by omega), c, d, ns, ms, rfl, rfl, Same.sqt e hc, Same.sqt e hd, q _ _ .bl⟩
  · cases ho
/-! ### isinstance -/
end
end Br
set_option maxHeartbeats 2000000
/-! BrDx: dicts whose keys are tuples that are tracked or known, nested too. -/
namespace Br
open PySem PySem.Spec PyProof.Rows L2
mutual
/-- the value at hand is the key k -/
def NAt (H : Hp) : NestedKey → V → Prop
  | .num i, v => v = .int i
  | .tup ks, v => ∃ (a : Addr) (xs : List V), v = .ref a ∧ Rd H a (.tup xs) ∧ NAts H ks xs
  | _, _ => False
def NAts (H : Hp) : List NestedKey → List V → Prop
  | [], xs => xs = []
  | k :: ks, xs => ∃ x r, xs = x :: r ∧ NAt H k x ∧ NAts H ks r
end
section
variable {P : Program} {w : World} {H F : Hp} {h : Heap} {K : PySem.W.Frag}
mutual
theorem NAt.is (ok : HOk P w H h) : ∀ {k : NestedKey} {v : V} {u : Value}, NAt H k v → RelV v u → NestedIs h k u
  | .num i, v, u, n, r => by
    have n : v = .int i := by rw [NAt] at n; exact n
    subst n
    obtain ⟨t, rfl⟩ := r
    exact .int i t
  | .tup ks, v, u, n, r => by
    rw [NAt] at n
    obtain ⟨a, xs, rfl, hd, hs⟩ := n
    cases (show u = Value.ref a from r)
    obtain ⟨_, its, rv, o, h1, h2, n, h3⟩ := (show ObjOk P w H h a (.tup xs) from rd_of ok hd)
    exact .tup h1 h2 h3 (by simpa using NAts.is ok hs rv)
  | .none, v, u, n, r => by rw [NAt] at n; exact n.elim; all_goals (intros; contradiction)
  | .text x, v, u, n, r => by rw [NAt] at n; exact n.elim; all_goals (intros; contradiction)
theorem NAts.is (ok : HOk P w H h) : ∀ {ks : List NestedKey} {vs : List V} {us : List Value}, NAts H ks vs → Vals vs us → NestedAll h ks us
  | [], vs, us, n, r => by
    have n : vs = [] := by rw [NAts] at n; exact n
    subst n
    cases r
    exact .nil
  | k :: ks, vs, us, n, r => by
    rw [NAts] at n
    obtain ⟨x, ys, rfl, h1, h2⟩ := n
    cases r with
    | cons a b => exact .cons (NAt.is ok h1 a) (NAts.is ok h2 b)
end
mutual
theorem Rep.nat (e : Same F H) : ∀ {p : PV} {v : V} {k : NestedKey}, Rep K F p v → PV.nk p = some k → NAt H k v
  | .int i, v, k, r, hk => by
    rw [PV.nk] at hk
    cases hk
    rw [NAt]
    exact r
  | .tup l, v, k, r, hk => by
    rw [PV.nk] at hk
    obtain ⟨ks, h1, rfl⟩ := Option.map_eq_some_iff.mp hk
    obtain ⟨a, xs, rfl, ha, rr⟩ := r
    rw [NAt]
    exact ⟨a, xs, rfl, .inl (e _ _ ha), Reps.nat e rr h1⟩
  | .xt l, v, k, r, hk => by
    rw [PV.nk] at hk
    obtain ⟨ks, h1, rfl⟩ := Option.map_eq_some_iff.mp hk
    obtain ⟨a, xs, o, rfl, ha, _, rr⟩ := r
    rw [NAt]
    exact ⟨a, xs, rfl, .inr ⟨o, e _ _ ha⟩, Reps.nat e rr h1⟩
  | .non, _, _, _, hk => by simp [PV.nk] at hk
  | .bl _, _, _, _, hk => by simp [PV.nk] at hk
  | .str _, _, _, _, hk => by simp [PV.nk] at hk
  | .ty _, _, _, _, hk => by simp [PV.nk] at hk
  | .exc _, _, _, _, hk => by simp [PV.nk] at hk
  | .lst _, _, _, _, hk => by simp [PV.nk] at hk
  | .dK _ _, _, _, _, hk => by simp [PV.nk] at hk
  | .dT _ _, _, _, _, hk => by simp [PV.nk] at hk
  | .dX _ _, _, _, _, hk => by simp [PV.nk] at hk
  | .obj _ _ _, _, _, _, hk => by simp [PV.nk] at hk
  | .gt _, _, _, _, hk => by simp [PV.nk] at hk
theorem Reps.nat (e : Same F H) : ∀ {l : List PV} {vs : List V} {ks : List NestedKey}, Reps K F l vs → PV.nks l = some ks → NAts H ks vs
  | [], vs, ks, r, hk => by
    rw [PV.nks] at hk
    cases hk
    rw [NAts]
    exact r
  | p :: l, vs, ks, r, hk => by
    obtain ⟨x, ys, rfl, h1, h2⟩ := r
    rw [PV.nks] at hk
    split at hk
    · rename_i k r hk1 hk2
      cases hk
      rw [NAts]
      exact ⟨x, ys, rfl, Rep.nat e h1 hk1, Reps.nat e h2 hk2⟩
    · cases hk
end
mutual
theorem nk_ik : ∀ {p : PV} {k : NestedKey}, PV.nk p = some k → ikN k = true
  | .int i, k, hk => by
    rw [PV.nk] at hk
    cases hk
    rw [ikN]
  | .tup l, k, hk => by
    rw [PV.nk] at hk
    obtain ⟨ks, h1, rfl⟩ := Option.map_eq_some_iff.mp hk
    rw [ikN]
    exact nks_ik h1
  | .xt l, k, hk => by
    rw [PV.nk] at hk
    obtain ⟨ks, h1, rfl⟩ := Option.map_eq_some_iff.mp hk
    rw [ikN]
    exact nks_ik h1
  | .non, _, hk => by simp [PV.nk] at hk
  | .bl _, _, hk => by simp [PV.nk] at hk
  | .str _, _, hk => by simp [PV.nk] at hk
  | .ty _, _, hk => by simp [PV.nk] at hk
  | .exc _, _, hk => by simp [PV.nk] at hk
  | .lst _, _, hk => by simp [PV.nk] at hk
  | .dK _ _, _, hk => by simp [PV.nk] at hk
  | .dT _ _, _, hk => by simp [PV.nk] at hk
  | .dX _ _, _, hk => by simp [PV.nk] at hk
  | .obj _ _ _, _, hk => by simp [PV.nk] at hk
  | .gt _, _, hk => by simp [PV.nk] at hk
theorem nks_ik : ∀ {l : List PV} {ks : List NestedKey}, PV.nks l = some ks → ikNs ks = true
  | [], ks, hk => by
    rw [PV.nks] at hk
    cases hk
    rw [ikNs]
  | p :: l, ks, hk => by
    rw [PV.nks] at hk
    split at hk
    · rename_i k r hk1 hk2
      cases hk
      rw [ikNs, nk_ik hk1, nks_ik hk2]
      rfl
    · cases hk
end
mutual
theorem hash_ik (w1 w2 : World) : ∀ {k : NestedKey}, ikN k = true → k.hash w1 = k.hash w2
  | .num i, _ => by rw [NestedKey.hash, NestedKey.hash]
  | .tup ks, hk => by
    rw [ikN] at hk
    rw [NestedKey.hash, NestedKey.hash, hashes_ik w1 w2 hk]
  | .none, hk => by simp [ikN] at hk
  | .text _, hk => by simp [ikN] at hk
theorem hashes_ik (w1 w2 : World) : ∀ {ks : List NestedKey}, ikNs ks = true → NestedKey.hashes w1 ks = NestedKey.hashes w2 ks
  | [], _ => by rw [NestedKey.hashes, NestedKey.hashes]
  | k :: ks, hk => by
    rw [ikNs, Bool.and_eq_true] at hk
    rw [NestedKey.hashes, NestedKey.hashes, hash_ik w1 w2 hk.1, hashes_ik w1 w2 hk.2]
end
theorem kok_nk {p : PV} (h : p.kok = true) : PV.nk p = some p.kq ∧ (∃ ks, p.kq = .tup ks) ∧ p.kq.depth ≤ 8 := by
  unfold PV.kok at h
  split at h
  · rename_i l
    rw [Bool.and_eq_true] at h
    obtain ⟨ks, hk⟩ := Option.isSome_iff_exists.mp h.1
    have e : PV.nk (.tup l) = some (.tup ks) := by rw [PV.nk, hk]; rfl
    have e2 : PV.kq (.tup l) = .tup ks := by unfold PV.kq; rw [e]; rfl
    exact ⟨by rw [e, e2], ⟨ks, e2⟩, of_decide_eq_true h.2⟩
  · rename_i l
    rw [Bool.and_eq_true] at h
    obtain ⟨ks, hk⟩ := Option.isSome_iff_exists.mp h.1
    have e : PV.nk (.xt l) = some (.tup ks) := by rw [PV.nk, hk]; rfl
    have e2 : PV.kq (.xt l) = .tup ks := by unfold PV.kq; rw [e]; rfl
    exact ⟨by rw [e, e2], ⟨ks, e2⟩, of_decide_eq_true h.2⟩
  · cases h
theorem Rep.kok (e : Same F H) {p : PV} {v : V} (r : Rep K F p v) (h : p.kok = true) : NAt H p.kq v ∧ p.kq.depth ≤ 8 ∧ ikN p.kq = true ∧ ∃ b, v = .ref b := by
  obtain ⟨h1, ⟨ks, h2⟩, h3⟩ := kok_nk h
  have n := Rep.nat e r h1
  refine ⟨n, h3, nk_ik h1, ?_⟩
  rw [h2, NAt] at n
  obtain ⟨a, _, rfl, _⟩ := n
  exact ⟨a, rfl⟩
theorem NAt.mono {H' : Hp} (e : Same H H') : ∀ {k : NestedKey} {v : V}, NAt H k v → NAt H' k v := fun {k v} => by
  refine NestedKey.rec (motive_1 := fun k => ∀ v, NAt H k v → NAt H' k v) (motive_2 := fun ks => ∀ vs, NAts H ks vs → NAts H' ks vs) ?_ ?_ ?_ ?_ ?_ ?_ k v
  · intro v n; rw [NAt] at n; exact n.elim; all_goals (intros; contradiction)
  · intro i v n; rw [NAt] at n ⊢; exact n
  · intro i v n; rw [NAt] at n; exact n.elim; all_goals (intros; contradiction)
  · intro ks ih v n
    rw [NAt] at n ⊢
    obtain ⟨a, xs, h1, h2, h3⟩ := n
    exact ⟨a, xs, h1, Rdm e h2, ih _ h3⟩
  · intro vs n; rw [NAts] at n ⊢; exact n
  · intro k ks h1 h2 vs n
    rw [NAts] at n ⊢
    obtain ⟨x, r, e1, n1, n2⟩ := n
    exact ⟨x, r, e1, h1 _ n1, h2 _ n2⟩
end
/-- what the dict at a holds at the key y -/
def keysX (kvs : List (NestedKey × Addr × V)) : List (NestedKey × V) := kvs.map fun p => (p.1, p.2.2)
def putX (kvs : List (NestedKey × Addr × V)) (k : NestedKey) (b : Addr) (v : V) : List (NestedKey × Addr × V) :=
  if k ∈ kvs.map (·.1) then kvs.map (fun p => if p.1 = k then (p.1, p.2.1, v) else p) else kvs ++ [(k, b, v)]
section
variable {P : Program} {w : World} {H : Hp} {h : Heap} {a : Addr} {kvs : List (NestedKey × Addr × V)}
theorem KX.val {xs : List (NestedKey × Addr × Value)} (r : KX kvs xs) (k : NestedKey) : RelO (valV (keysX kvs) k) ((atKey xs k).map (·.2)) := by
  induction r with
  | nil => exact True.intro
  | @cons p q ps qs h t ih =>
    obtain ⟨h1, _, h2⟩ := h
    unfold keysX at ih ⊢
    rw [List.map_cons]
    by_cases e : p.1 = k
    · have e' : q.1 = k := h1.symm.trans e
      have b : atKey (q :: qs) k = some q.2 := by simp [atKey, List.find?_cons, e']
      rw [valV_pos e, b]; exact h2
    · have e' : ¬ q.1 = k := fun z => e (h1.trans z)
      have b : atKey (q :: qs) k = atKey qs k := by simp [atKey, List.find?_cons, e']
      rw [valV_neg e, b]; exact ih
theorem KX.has {xs : List (NestedKey × Addr × Value)} (r : KX kvs xs) (k : NestedKey) : k ∈ kvs.map (·.1) ↔ (atKey xs k).isSome = true := by
  induction r with
  | nil => simp [atKey]
  | @cons p q ps qs h t ih =>
    obtain ⟨h1, _, h2⟩ := h
    rw [List.map_cons, List.mem_cons]
    by_cases e : p.1 = k
    · have e' : q.1 = k := h1.symm.trans e
      have b : atKey (q :: qs) k = some q.2 := by simp [atKey, List.find?_cons, e']
      rw [b]; exact ⟨fun _ => rfl, fun _ => .inl e.symm⟩
    · have e' : ¬ q.1 = k := fun z => e (h1.trans z)
      have b : atKey (q :: qs) k = atKey qs k := by simp [atKey, List.find?_cons, e']
      rw [b, ← ih]
      exact ⟨fun z => z.resolve_left fun z => e z.symm, .inr⟩
theorem KX.repl {xs : List (NestedKey × Addr × Value)} (r : KX kvs xs) (k : NestedKey) {y : V} {u : Value} (ry : RelV y u) :
    KX (kvs.map fun p => if p.1 = k then (p.1, p.2.1, y) else p) (xs.map (putAt k u)) := by
  induction r with
  | nil => exact .nil
  | @cons p q ps qs h t ih =>
    rw [List.map_cons, List.map_cons]
    refine .cons ?_ ih
    obtain ⟨h1, h2, h3⟩ := h
    unfold putAt
    by_cases e : p.1 = k
    · rw [if_pos e, if_pos (h1.symm.trans e)]; exact ⟨h1, h2, ry⟩
    · rw [if_neg e, if_neg (fun z => e (h1.trans z))]; exact ⟨h1, h2, h3⟩
theorem KX.put {xs : List (NestedKey × Addr × Value)} (r : KX kvs xs) (k : NestedKey) {b : Addr} {y : V} {u : Value} (ry : RelV y u) : KX (putX kvs k b y) (storedH xs k b u) := by
  unfold putX storedH
  have e := r.has k
  by_cases q : k ∈ kvs.map (·.1)
  · rw [if_pos q, if_pos (e.mp q)]; exact r.repl k ry
  · rw [if_neg q, if_neg (fun z => q (e.mpr z))]; exact Paired.snoc r ⟨rfl, rfl, ry⟩
end
section
variable {X : Cx} {pins : List (Addr × Obj)} {σ : L2.St} {H : Hp} {s : Shared} {a : Addr} {y v d : V} {u r : Value} {o : Option V} {A : Around} {E : Value → Shared → Prop}
end
end Br
set_option maxHeartbeats 1000000
/-! BrE1: calls. -/
namespace Br
open PySem PySem.Spec PyProof.Rows L2

/-- a def's promise by what it computes -/
def spOf (K : PySem.W.Frag) (g : List LV → CR) : Sp := fun vs H Q E => ∃ F ls fp, SR ⟨K, H, F, fp⟩ F (ls.map some) (vs.map some) H ∧ match g ls with
  | .ok r ls' => ∀ v H' F', SR ⟨K, H, F, fp⟩ F' (some r :: maskL ls ls') (some v :: vs.map some) H' → Q v H'
  | .ex c ls' => ∀ H' F', SR ⟨K, H, F, fp⟩ F' (maskL ls ls') (vs.map some) H' → E (.ref (He.ga K c)) none H'
  | .st => False

theorem maskL_len : ∀ {ls ls' : List LV}, ls'.length = ls.length → (maskL ls ls').length = ls.length
  | [], [], _ => rfl
  | [], _ :: _, h => by cases h
  | l :: ls, [], h => by cases h
  | l :: ls, l' :: ls', h => by
    have := maskL_len (ls := ls) (ls' := ls') (by simpa using h)
    simp [maskL, this]
theorem maskL_get : ∀ {ls ls' : List LV} {k : Nat} {o : Option LV}, (maskL ls ls')[k]? = some o → ∃ l l', ls[k]? = some l ∧ ls'[k]? = some l' ∧ o = if l.isFro = true then none else some l'
  | [], _, k, o, h => by simp [maskL] at h
  | l :: ls, [], k, o, h => by simp [maskL] at h
  | l :: ls, l' :: ls', 0, o, h => by
    simp only [maskL, List.getElem?_cons_zero, Option.some.injEq] at h
    exact ⟨l, l', rfl, rfl, h.symm⟩
  | l :: ls, l' :: ls', k + 1, o, h => by
    have := maskL_get (ls := ls) (ls' := ls') (k := k) (o := o) (by simpa [maskL] using h)
    simpa using this

section
variable {C : Cb} {F H : Hp} {ρ : Env} {σ : L2.St}
/-- the addresses that the handed-on names own -/
def fpOf (fp : Nat → List Addr) : List AV → List Addr
  | [] => []
  | .val _ :: as => fpOf fp as
  | .ref i :: as => fp i ++ fpOf fp as
theorem mem_fpOf {fp : Nat → List Addr} {a : Addr} : ∀ {as : List AV}, a ∈ fpOf fp as ↔ ∃ i ∈ AV.refs as, a ∈ fp i
  | [] => by simp [fpOf, AV.refs]
  | .val _ :: as => by
    rw [show fpOf fp (.val _ :: as) = fpOf fp as from rfl, mem_fpOf, show AV.refs (.val _ :: as) = AV.refs as from rfl]
  | .ref i :: as => by
    rw [show fpOf fp (.ref i :: as) = fp i ++ fpOf fp as from rfl, List.mem_append, mem_fpOf, show AV.refs (.ref i :: as) = i :: AV.refs as from rfl]
    constructor
    · rintro (h | ⟨j, h1, h2⟩)
      · exact ⟨i, by simp, h⟩
      · exact ⟨j, by simp [h1], h2⟩
    · rintro ⟨j, h1, h2⟩
      rcases List.mem_cons.mp h1 with rfl | h1
      · exact .inl h2
      · exact .inr ⟨j, h1, h2⟩
/-- the k-th argument's address list -/
def fpAt (fp : Nat → List Addr) (as : List AV) (k : Nat) : List Addr := match as[k]? with
  | some (AV.ref i) => fp i
  | _ => []
theorem lvs_get : ∀ {as : List AV} {ls : List LV} {k : Nat} {l : LV}, AV.lvs ρ as = some ls → ls[k]? = some l → ∃ a, as[k]? = some a ∧ a.lv ρ = some l
  | [], ls, k, l, h, e => by cases h; simp at e
  | a :: as, ls, k, l, h, e => by
    unfold AV.lvs at h
    split at h
    · rename_i p ps h1 h2
      cases h
      cases k with
      | zero => simp at e; subst e; exact ⟨a, rfl, h1⟩
      | succ k => simpa using lvs_get h2 (by simpa using e)
    · cases h
theorem lvs_len : ∀ {as : List AV} {ls : List LV}, AV.lvs ρ as = some ls → ls.length = as.length
  | [], ls, h => by cases h; rfl
  | a :: as, ls, h => by
    unfold AV.lvs at h
    split at h
    · rename_i p ps h1 h2
      cases h
      simp [lvs_len h2]
    · cases h
theorem AVRs.get {K : PySem.W.Frag} : ∀ {as : List AV} {vs : List V} {k : Nat} {a : AV}, AVRs K F σ as vs → as[k]? = some a → ∃ v, vs[k]? = some v ∧ AVR K F σ a v
  | [], vs, k, a, h, e => by simp at e
  | b :: as, vs, k, a, h, e => by
    obtain ⟨v, r, rfl, h2, h3⟩ := h
    cases k with
    | zero => simp at e; subst e; exact ⟨v, rfl, h2⟩
    | succ k => simpa using AVRs.get h3 (by simpa using e)
theorem refs_ix : ∀ {as : List AV} {k : Nat} {i : Nat}, as[k]? = some (AV.ref i) → i ∈ AV.refs as
  | [], k, i, h => by simp at h
  | .val _ :: as, 0, i, h => by simp at h
  | .ref j :: as, 0, i, h => by simp at h; subst h; simp [AV.refs]
  | .val _ :: as, k + 1, i, h => refs_ix (as := as) (by simpa using h)
  | .ref j :: as, k + 1, i, h => by
    have := refs_ix (as := as) (k := k) (i := i) (by simpa using h)
    simp [AV.refs, this]
theorem avAt : ∀ {as : List AV} {i : Nat}, i ∈ AV.refs as → ∃ k : Nat, as[k]? = some (AV.ref i)
  | [], i, h => by simp [AV.refs] at h
  | .val _ :: as, i, h => by
    obtain ⟨k, hk⟩ := avAt (as := as) h
    exact ⟨k + 1, by simpa using hk⟩
  | .ref j :: as, i, h => by
    rcases List.mem_cons.mp (show i ∈ j :: AV.refs as from h) with rfl | h
    · exact ⟨0, rfl⟩
    · obtain ⟨k, hk⟩ := avAt (as := as) h
      exact ⟨k + 1, by simpa using hk⟩
theorem refs_inj : ∀ {as : List AV} {k m : Nat} {i : Nat}, (AV.refs as).Nodup → as[k]? = some (AV.ref i) → as[m]? = some (AV.ref i) → k = m
  | [], k, m, i, _, h, _ => by simp at h
  | .val _ :: as, 0, m, i, _, h, _ => by simp at h
  | .val _ :: as, k + 1, 0, i, _, _, h => by simp at h
  | .val _ :: as, k + 1, m + 1, i, nd, h, h' => congrArg (· + 1) (refs_inj (as := as) nd (by simpa using h) (by simpa using h'))
  | .ref j :: as, 0, 0, i, nd, h, h' => rfl
  | .ref j :: as, 0, m + 1, i, nd, h, h' => by
    simp at h
    subst h
    exact absurd (refs_ix (as := as) (by simpa using h')) (List.nodup_cons.mp nd).1
  | .ref j :: as, k + 1, 0, i, nd, h, h' => by
    simp at h'
    subst h'
    exact absurd (refs_ix (as := as) (by simpa using h)) (List.nodup_cons.mp nd).1
  | .ref j :: as, k + 1, m + 1, i, nd, h, h' => congrArg (· + 1) (refs_inj (as := as) (List.nodup_cons.mp nd).2 (by simpa using h) (by simpa using h'))
/-- a slot behind a call -/
theorem back_get : ∀ {as : List AV} {ms ρ : Env} {j : Nat} {m : LV}, (AV.refs as).Nodup → as.length = ms.length → (AV.back ρ as ms)[j]? = some (some m) →
    (ρ[j]? = some (some m) ∧ ∀ k : Nat, as[k]? = some (AV.ref j) → ms[k]? = some none) ∨ (∃ k : Nat, as[k]? = some (AV.ref j) ∧ ms[k]? = some (some m))
  | [], ms, ρ, j, m, _, _, h => .inl ⟨by simpa [AV.back] using h, fun k hk => by simp at hk⟩
  | _ :: as, [], ρ, j, m, nd, hl, h => by cases hl
  | .val p :: as, o :: ms, ρ, j, m, nd, hl, h => by
    have h' : (AV.back ρ as ms)[j]? = some (some m) := by cases o <;> exact h
    rcases back_get (as := as) nd (by simpa using hl) h' with ⟨q1, q2⟩ | ⟨k, h1, h2⟩
    · refine .inl ⟨q1, fun k hk => ?_⟩
      cases k with
      | zero => simp at hk
      | succ k => simpa using q2 k (by simpa using hk)
    · exact .inr ⟨k + 1, by simpa using h1, by simpa using h2⟩
  | .ref i :: as, none :: ms, ρ, j, m, nd, hl, h => by
    have nd' := List.nodup_cons.mp (show (i :: AV.refs as).Nodup from nd)
    rcases back_get (as := as) nd'.2 (by simpa using hl) (show (AV.back ρ as ms)[j]? = some (some m) from h) with ⟨q1, q2⟩ | ⟨k, h1, h2⟩
    · refine .inl ⟨q1, fun k hk => ?_⟩
      cases k with
      | zero => rfl
      | succ k => simpa using q2 k (by simpa using hk)
    · exact .inr ⟨k + 1, by simpa using h1, by simpa using h2⟩
  | .ref i :: as, some l :: ms, ρ, j, m, nd, hl, h => by
    have nd' := List.nodup_cons.mp (show (i :: AV.refs as).Nodup from nd)
    rcases back_get (as := as) nd'.2 (by simpa using hl) (show (AV.back (ρ.set i (some l)) as ms)[j]? = some (some m) from h) with ⟨q1, q2⟩ | ⟨k, h1, h2⟩
    · rcases set_get q1 with ⟨rfl, z, _⟩ | ⟨z, q1⟩
      · cases z
        exact .inr ⟨0, rfl, rfl⟩
      · refine .inl ⟨q1, fun k hk => ?_⟩
        cases k with
        | zero => simp at hk; exact absurd hk z
        | succ k => simpa using q2 k (by simpa using hk)
    · exact .inr ⟨k + 1, by simpa using h1, by simpa using h2⟩
theorem back_len : ∀ (as : List AV) (ms ρ : Env), (AV.back ρ as ms).length = ρ.length
  | [], ms, _ => by cases ms <;> rfl
  | .val _ :: as, [], _ => rfl
  | .val _ :: as, o :: ms, ρ => by cases o <;> exact back_len as ms ρ
  | .ref i :: as, [], _ => rfl
  | .ref i :: as, none :: ms, ρ => back_len as ms ρ
  | .ref i :: as, some l :: ms, ρ => by
    show (AV.back (ρ.set i (some l)) as ms).length = _
    rw [back_len as ms _, List.length_set]
theorem lv_ref {i : Nat} {l : LV} (h : AV.lv ρ (.ref i) = some l) : ρ[i]? = some (some l) := by
  unfold AV.lv at h
  dsimp only at h
  split at h
  · rename_i l' e; cases h; exact e
  · cases h
/-- INTO a call and out of it -/
theorem call_io (s : SR C F ρ σ H) {as : List AV} {vs : List V} {ls : List LV} (r : AVRs C.K F σ as vs) (hl : AV.lvs ρ as = some ls) (nd : (AV.refs as).Nodup) :
    ∃ fp, SR ⟨C.K, H, F, fp⟩ F (ls.map some) (vs.map some) H ∧
      (∀ l v ls' F' H', SR ⟨C.K, H, F, fp⟩ F' (some l :: maskL ls ls') (some v :: vs.map some) H' → ls'.length = ls.length → SR C F' (some l :: AV.back ρ as (maskL ls ls')) (some v :: σ) H') := by
  obtain ⟨fp, h1, h2⟩ := s.own
  have hal := lvs_len hl
  have hlen : ls.length = vs.length := hal.trans r.length
  have info : ∀ (k : Nat) (l : LV), ls[k]? = some l → ∃ v, vs[k]? = some v ∧ RepL C.K F H l v (fpAt fp as k) ∧ (fpAt fp as k).Nodup ∧ (∀ a ∈ fpAt fp as k, F a = none ∧ C.O a) ∧ (∀ i, as[k]? = some (AV.ref i) → σ[i]? = some (some v) ∧ ρ[i]? = some (some l)) := fun k l e => by
    obtain ⟨a, ha, hla⟩ := lvs_get hl e
    obtain ⟨v, hv, rv⟩ := r.get ha
    refine ⟨v, hv, ?_⟩
    cases a with
    | val p =>
      cases hla
      have e1 : fpAt fp as k = [] := by unfold fpAt; rw [ha]
      rw [e1]
      exact ⟨⟨rv, rfl⟩, List.nodup_nil, (fun a h => absurd h (by simp)), fun i z => by rw [ha] at z; cases z⟩
    | ref i =>
      have hl' := lv_ref hla
      obtain ⟨v', hv', rl, ndp, q⟩ := h1 i l hl'
      have rv' : σ[i]? = some (some v) := rv
      rw [rv'] at hv'
      cases hv'
      have e1 : fpAt fp as k = fp i := by unfold fpAt; rw [ha]
      rw [e1]
      exact ⟨rl, ndp, q, fun j z => by rw [ha] at z; cases z; exact ⟨rv', hl'⟩⟩
  have atk : ∀ (k i : Nat), as[k]? = some (AV.ref i) → ∃ l, ls[k]? = some l ∧ ρ[i]? = some (some l) := fun k i hk => by
    have hkl : k < ls.length := by rw [hal]; exact (List.getElem?_eq_some_iff.mp hk).1
    obtain ⟨_, _, _, _, _, f⟩ := info k _ (List.getElem?_eq_getElem hkl)
    exact ⟨_, List.getElem?_eq_getElem hkl, (f i hk).2⟩
  have inFp : ∀ k a, a ∈ fpAt fp as k → a ∈ fpOf fp as := fun k a ha => by
    unfold fpAt at ha
    split at ha
    · rename_i i e
      exact mem_fpOf.mpr ⟨i, refs_ix e, ha⟩
    · cases ha
  refine ⟨fpOf fp as, ⟨s.le, Same.refl F, fun a o h _ => h, fun a h => .inl h, by simp [hlen], fpAt fp as, fun k l e => ?_, fun k m l l' hkm e e' a ha hb => ?_⟩, fun l v ls' F' H' s' hll => ?_⟩
  · have e' : ls[k]? = some l := by simpa using e
    obtain ⟨v, hv, rl, ndp, q, _⟩ := info k l e'
    exact ⟨v, by simp [hv], rl, ndp, fun a ha => ⟨(q a ha).1, .inl (inFp k a ha)⟩⟩
  · unfold fpAt at ha hb
    split at ha
    · rename_i i ei
      split at hb
      · rename_i j ej
        by_cases hij : i = j
        · subst hij
          exact hkm (refs_inj nd ei ej)
        · obtain ⟨l1, _, g1⟩ := atk k i ei
          obtain ⟨l2, _, g2⟩ := atk m j ej
          exact h2 i j l1 l2 hij g1 g2 a ha hb
      · cases hb
    · cases ha
  · -- back in the caller's frame
    obtain ⟨fq, k1, k2⟩ := s'.own
    have f0 : Same F F' := s'.f0
    have keepH : ∀ a o, H a = some o → a ∉ fpOf fp as → H' a = some o := s'.keep
    have foF : ∀ a, F' a ≠ none → F a ≠ none ∨ (a ∈ fpOf fp as ∨ H a = none ∨ ∃ xs, H a = some (.tup xs)) := s'.fo
    have newO : ∀ a, (a ∈ fpOf fp as ∨ H a = none) → C.O a := fun a h => by
      rcases h with h | h
      · obtain ⟨i, hi, ha⟩ := mem_fpOf.mp h
        obtain ⟨k, hk⟩ := avAt hi
        obtain ⟨l1, _, g1⟩ := atk k i hk
        obtain ⟨_, _, _, _, q⟩ := h1 i l1 g1
        exact (q a ha).2
      · exact s.fresh h
    have notin : ∀ j m, ρ[j]? = some (some m) → j ∉ AV.refs as → ∀ a ∈ fp j, a ∉ fpOf fp as := fun j m hρ hj a ha hb => by
      obtain ⟨i, hi, hai⟩ := mem_fpOf.mp hb
      obtain ⟨k, hk⟩ := avAt hi
      obtain ⟨l1, _, g1⟩ := atk k i hk
      exact h2 j i m l1 (fun w => hj (w ▸ hi)) hρ g1 a ha hai
    have thereH : ∀ j m, ρ[j]? = some (some m) → ∀ a ∈ fp j, ∃ o, H a = some o := fun j m hρ a ha => by
      obtain ⟨_, _, rl, _⟩ := h1 j m hρ
      exact rl.there a ha
    have hml : (maskL ls ls').length = as.length := by rw [maskL_len hll, hal]
    classical
    let P : Nat → Prop := fun j => ∃ (k : Nat) (m : LV), as[k]? = some (AV.ref j) ∧ (maskL ls ls')[k]? = some (some m)
    let gp : Nat → List Addr := fun n => match n with
      | 0 => fq 0
      | j + 1 => if h : P j then fq (Classical.choose h + 1) else fp j
    -- what a slot holds: as it was, or behind the call
    have slot : ∀ j m, (AV.back ρ as (maskL ls ls'))[j]? = some (some m) →
        (gp (j + 1) = fp j ∧ ρ[j]? = some (some m) ∧ (j ∉ AV.refs as ∨ fp j = [])) ∨ (∃ k : Nat, as[k]? = some (AV.ref j) ∧ gp (j + 1) = fq (k + 1) ∧ (maskL ls ls')[k]? = some (some m)) := fun j m hm => by
      rcases back_get nd hml.symm hm with ⟨hρ, hno⟩ | ⟨k, hk, hkm⟩
      · have hP : ¬ P j := fun ⟨k, m', e1, e2⟩ => by
          rw [hno k e1] at e2
          cases e2
        refine .inl ⟨dif_neg hP, hρ, ?_⟩
        by_cases hj : j ∈ AV.refs as
        · refine .inr ?_
          obtain ⟨k, hk⟩ := avAt hj
          obtain ⟨l1, g0, g1⟩ := atk k j hk
          obtain ⟨l2, l3, e1, e2, e3⟩ := maskL_get (hno k hk)
          rw [g0] at e1
          cases e1
          obtain ⟨_, _, rl, _⟩ := h1 j l1 g1
          cases l1 with
          | fro p => exact rl.2
          | own p => simp [LV.isFro] at e3
          | ins c ns ls => simp [LV.isFro] at e3
        · exact .inl hj
      · have hP : P j := ⟨k, m, hk, hkm⟩
        have e1 : gp (j + 1) = fq (Classical.choose hP + 1) := dif_pos hP
        have e2 : Classical.choose hP = k := refs_inj nd (Classical.choose_spec hP).choose_spec.1 hk
        rw [e2] at e1
        exact .inr ⟨k, hk, e1, hkm⟩
    have valB : ∀ (j k : Nat) (m : LV), as[k]? = some (AV.ref j) → (maskL ls ls')[k]? = some (some m) → ∃ v', σ[j]? = some (some v') ∧ RepL C.K F' H' m v' (fq (k + 1)) ∧ (fq (k + 1)).Nodup ∧ ∀ a ∈ fq (k + 1), F' a = none ∧ (a ∈ fpOf fp as ∨ H a = none) := fun j k m hk hkm => by
      obtain ⟨v2, hv2, rl2, nd2, q2⟩ := k1 (k + 1) m (by simpa using hkm)
      obtain ⟨l1, g0, _⟩ := atk k j hk
      obtain ⟨v', hv', _, _, _, f⟩ := info k l1 g0
      have e : v2 = v' := by
        have : (vs.map some)[k]? = some (some v2) := by simpa using hv2
        rw [List.getElem?_map, hv'] at this
        simpa using this.symm
      subst e
      exact ⟨v2, (f j hk).1, rl2, nd2, fun a ha => ⟨(q2 a ha).1, s'.oOwn rl2 ha (q2 a ha).2⟩⟩
    have hlenρ : (AV.back ρ as (maskL ls ls')).length = σ.length := by rw [back_len, s.len]
    refine ⟨s'.le, s.f0.trans f0, fun a o e ha => ?_, fun a e => ?_, by simp [hlenρ], gp, fun n m hm => ?_, fun n n' m m' hnn hm hm' => ?_⟩
    · refine keepH a o (s.keep a o e ha) fun hf => ?_
      rcases newO a (.inl hf) with z | z | ⟨ys, z⟩
      · exact ha z
      · rw [e] at z; cases z
      · obtain ⟨i, hi, hai⟩ := mem_fpOf.mp hf
        obtain ⟨k, hk⟩ := avAt hi
        obtain ⟨l1, _, g1⟩ := atk k i hk
        obtain ⟨_, _, rl, _⟩ := h1 i l1 g1
        exact rl.noTup a hai ys (s.keep a _ z ha)
    · rcases foF a e with z | z
      · exact s.fo a z
      · rcases z with z | z | ⟨ys, z⟩
        · exact .inr (newO a (.inl z))
        · exact .inr (newO a (.inr z))
        · exact .inr (s.oTup z)
    · cases n with
      | zero =>
        simp only [List.getElem?_cons_zero, Option.some.injEq] at hm
        obtain ⟨v', hv', rl, nd1, q⟩ := k1 0 m (by simpa using hm)
        have e : v' = v := by simpa using hv'.symm
        subst e
        exact ⟨v', rfl, rl, nd1, fun a ha => ⟨(q a ha).1, newO a (s'.oOwn rl ha (q a ha).2)⟩⟩
      | succ j =>
        rcases slot j m (by simpa using hm) with ⟨eg, hρ, hj⟩ | ⟨k, hk, eg, hkm⟩
        · rw [eg]
          obtain ⟨v', hv', rl, ndp, q⟩ := h1 j m hρ
          refine ⟨v', by simpa using hv', ?_, ndp, fun a ha => ⟨?_, (q a ha).2⟩⟩
          · refine rl.frame f0 fun a ha => ?_
            rcases hj with hj | hj
            · obtain ⟨o, ho⟩ := rl.there a ha
              rw [keepH a o ho (notin j m hρ hj a ha), ho]
            · rw [hj] at ha; cases ha
          · rcases hj with hj | hj
            · cases z : F' a with
              | none => rfl
              | some o =>
                rcases foF a (by rw [z]; exact fun w => nomatch w) with w | w | w | ⟨ys, w⟩
                · exact absurd (q a ha).1 w
                · exact absurd w (notin j m hρ hj a ha)
                · obtain ⟨o', ho⟩ := rl.there a ha
                  rw [ho] at w; cases w
                · exact absurd w (rl.noTup a ha ys)
            · rw [hj] at ha; cases ha
        · rw [eg]
          obtain ⟨v', e1, e2, e3, e4⟩ := valB j k m hk hkm
          exact ⟨v', by simpa using e1, e2, e3, fun a ha => ⟨(e4 a ha).1, newO a (e4 a ha).2⟩⟩
    · -- apart
      have apartA : ∀ j m, ρ[j]? = some (some m) → (j ∉ AV.refs as ∨ fp j = []) → ∀ a, (a ∈ fpOf fp as ∨ H a = none) → a ∉ fp j := fun j m hρ hj a hz hb => by
        rcases hj with hj | hj
        · rcases hz with hz | hz
          · exact notin j m hρ hj a hb hz
          · obtain ⟨o, ho⟩ := thereH j m hρ a hb
            rw [ho] at hz; cases hz
        · rw [hj] at hb; cases hb
      cases n with
      | zero =>
        cases n' with
        | zero => exact absurd rfl hnn
        | succ j =>
          have hz0 : ∀ a ∈ fq 0, (a ∈ fpOf fp as ∨ H a = none) := fun a ha => by
            obtain ⟨_, _, r0, _, q⟩ := k1 0 l rfl
            exact s'.oOwn r0 ha (q a ha).2
          rcases slot j m' (by simpa using hm') with ⟨eg, hρ, hj⟩ | ⟨k, hk, eg, hkm⟩
          · rw [eg]
            exact fun a ha => apartA j m' hρ hj a (hz0 a ha)
          · rw [eg]
            exact k2 0 (k + 1) l m' (by omega) rfl (by simpa using hkm)
      | succ i =>
        cases n' with
        | zero =>
          have hz0 : ∀ a ∈ fq 0, (a ∈ fpOf fp as ∨ H a = none) := fun a ha => by
            obtain ⟨_, _, r0, _, q⟩ := k1 0 l rfl
            exact s'.oOwn r0 ha (q a ha).2
          rcases slot i m (by simpa using hm) with ⟨eg, hρ, hj⟩ | ⟨k, hk, eg, hkm⟩
          · rw [eg]
            exact fun a ha hb => apartA i m hρ hj a (hz0 a hb) ha
          · rw [eg]
            exact k2 (k + 1) 0 m l (by omega) (by simpa using hkm) rfl
        | succ j =>
          have hij : i ≠ j := fun w => hnn (by rw [w])
          rcases slot i m (by simpa using hm) with ⟨eg, hρ, hj⟩ | ⟨k, hk, eg, hkm⟩
          · rw [eg]
            rcases slot j m' (by simpa using hm') with ⟨eg', hρ', hj'⟩ | ⟨k', hk', eg', hkm'⟩
            · rw [eg']
              exact h2 i j m m' hij hρ hρ'
            · rw [eg']
              obtain ⟨_, _, _, _, e4⟩ := valB j k' m' hk' hkm'
              exact fun a ha hb => apartA i m hρ hj a (e4 a hb).2 ha
          · rw [eg]
            obtain ⟨_, _, _, _, e4⟩ := valB i k m hk hkm
            rcases slot j m' (by simpa using hm') with ⟨eg', hρ', hj'⟩ | ⟨k', hk', eg', hkm'⟩
            · rw [eg']
              exact fun a ha => apartA j m' hρ' hj' a (e4 a ha).2
            · rw [eg']
              have hkk : k ≠ k' := fun w => by
                subst w
                rw [hk] at hk'
                cases hk'
                exact hij rfl
              exact k2 (k + 1) (k' + 1) m m' (by omega) (by simpa using hkm) (by simpa using hkm')
end
end Br
set_option maxHeartbeats 1000000
/-! BrE2: the rules of expressions. -/
namespace Br
open PySem PySem.Spec PyProof.Rows L2

/-- what a context must have -/
structure XO (X : Cx) (C : Cb) : Prop where
  K : C.K = X.K
  nd : X.N.Nodup
  un : X.A.units + 131 < cLine
/-- .. where no exception is handled -/
structure XC (X : Cx) (C : Cb) : Prop extends XO X C where
  calm : X.calm = true

/-- a value that may be our own, on top of the slots -/
def PostL (C : Cb) (W : WX) (σ : L2.St) (F : Hp) (r : ER LV) (k : LV → Env → Hp → Hp → V → Prop) : Prop := match r with
  | .ok l ρ => ∀ F' H' v, Same F F' → SR C F' (some l :: ρ) (some v :: σ) H' → k l ρ F' H' v
  | .ex c ρ => ∀ F' H', Same F F' → SR C F' ρ σ H' → W (.ref (He.ga C.K c)) none σ H'
  | .st => False
section
variable {C : Cb} {W : WX} {σ : L2.St} {F F1 H : Hp} {ρ : Env} {α : Type}
theorem PostL.mono {r : ER LV} {k : LV → Env → Hp → Hp → V → Prop} (h : PostL C W σ F r k) (e : Same F F1) : PostL C W σ F1 r k := by
  cases r with
  | ok a ρ => exact fun F' H' v e' s => h F' H' v (e.trans e') s
  | ex c ρ => exact fun F' H' e' s => h F' H' (e.trans e') s
  | st => exact h
theorem PostL.imp {r : ER LV} {k k' : LV → Env → Hp → Hp → V → Prop} (h : PostL C W σ F r k) (i : ∀ l ρ F' H' v, Same F F' → SR C F' (some l :: ρ) (some v :: σ) H' → k l ρ F' H' v → k' l ρ F' H' v) : PostL C W σ F r k' := by
  cases r with
  | ok a ρ => exact fun F' H' v e' s => i _ _ _ _ _ e' s (h F' H' v e' s)
  | ex c ρ => exact fun F' H' e' s => h F' H' e' s
  | st => exact h
theorem PostL.bindV {r : ER α} {f : α → Env → ER LV} {k : LV → Env → Hp → Hp → V → Prop} (h : PostL C W σ F (r.bind f) k) : Post C W σ F r fun a ρ1 F1 _ => PostL C W σ F1 (f a ρ1) k := by
  cases r with
  | ok a ρ => exact fun F' H' e' s => h.mono e'
  | ex c ρ => exact fun F' H' e' s => h F' H' e' s
  | st => exact h
/-- frozen behind -/
theorem SR.popL {l : LV} {v : V} {p : PV} (s : SR C F (some l :: ρ) (some v :: σ) H) (h : l.pv = some p) : ∃ F', Same F F' ∧ SR C F' ρ σ H ∧ Rep C.K F' p v := by
  cases l with
  | fro q => cases h; obtain ⟨s', r⟩ := s.popFro; exact ⟨F, Same.refl F, s', r⟩
  | own q => cases h; exact s.popOwn
  | ins c ns ls => cases h
end

section
variable (C : Cb) (Φ : Nat → List LV → CR) (W : WX)
def tL' (e : Ex) : TE := fun σ H Q => ∃ ρ F, SR C F ρ σ H ∧ PostL C W σ F (evL Φ e ρ) fun _ _ _ H' v => Q v H'
/-- an operation -/
def tO (o : Op) (as : List Arg) : TE := fun σ H Q => tAs C Φ W as σ H fun vs H1 => rOp C.K o vs H1 Q
/-- a method -/
def tM (o : Op) (a : Arg) (as : List Arg) : TE := fun σ H Q => tA1 C Φ W a σ H fun x H1 => (∃ F p, Same F H1 ∧ recvOk o (some p) = true ∧ RepB C.K F H1 p x) ∧ tAs C Φ W as σ H1 fun vs H2 => rOp C.K o (x :: vs) H2 Q
end

section
variable {C : Cb} {Φ : Nat → List LV → CR} {W : WX} {X : Cx} {a b c e : Expr} {es : List Expr} {pos p : Pos} {x : Str}
/-! ### from reading to reading -/
theorem tA1.imp {ir : Arg} {σ : L2.St} {H : Hp} {Q Q' : VK} (h : tA1 C Φ W ir σ H Q) (i : ∀ v H', Q v H' → Q' v H') : tA1 C Φ W ir σ H Q' := by
  obtain ⟨ρ, F, s, q⟩ := h
  exact ⟨ρ, F, s, q.imp fun _ _ _ _ _ _ k v r => i _ _ (k v r)⟩
theorem tAs.imp {ir : List Arg} {σ : L2.St} {H : Hp} {Q Q' : List V → Hp → Prop} (h : tAs C Φ W ir σ H Q) (i : ∀ v H', Q v H' → Q' v H') : tAs C Φ W ir σ H Q' := by
  obtain ⟨ρ, F, s, q⟩ := h
  exact ⟨ρ, F, s, q.imp fun _ _ _ _ _ _ k v r => i _ _ (k v r)⟩
theorem tO_1 {o : Op} {a : Arg} {σ : L2.St} {H : Hp} {Q : VK} (q : tO C Φ W o [a] σ H Q) : tA1 C Φ W a σ H fun x H1 => rOp C.K o [x] H1 Q := by
  obtain ⟨ρ, F, s, p⟩ := tAs_cons q
  exact ⟨ρ, F, s, p.imp fun a ρ1 F1 H1 e1 s1 k v r => tAs_nil (k v r)⟩
theorem tO_2 {o : Op} {a b : Arg} {σ : L2.St} {H : Hp} {Q : VK} (q : tO C Φ W o [a, b] σ H Q) : tA1 C Φ W a σ H fun x H1 => tA1 C Φ W b σ H1 fun y H2 => rOp C.K o [x, y] H2 Q := by
  obtain ⟨ρ, F, s, p⟩ := tAs_cons q
  refine ⟨ρ, F, s, p.imp fun a ρ1 F1 H1 e1 s1 k v r => ?_⟩
  obtain ⟨ρ, F, s, p⟩ := tAs_cons (k v r)
  exact ⟨ρ, F, s, p.imp fun a ρ1 F1 H1 e1 s1 k v r => tAs_nil (k v r)⟩
theorem e_op {o : Op} {as : List Arg} (h : PE X e (tO C Φ W o as)) : PE X e (tE C Φ W (.app o as)) := h.weak fun _ _ _ q => tE_app q
/-- the operation's object is kept as our own -/
theorem ResR.keepL {F H H' : Hp} {ρ : Env} {σ : L2.St} {o : Op} {r : PV} {v : V} (s : SR C F ρ σ H) (h : ResR C.K F H o.new r v H') : ∃ F', Same F F' ∧ SR C F' (some (ownV o r) :: ρ) (some v :: σ) H' := by
  unfold ownV
  by_cases hn : o.new = true
  · rw [if_pos hn]
    rw [hn] at h
    obtain ⟨F', e, s'⟩ := h.own s
    exact ⟨F', e, by cases r <;> exact s'⟩
  · rw [if_neg hn]
    obtain ⟨F', e, s', r'⟩ := h.fro s
    exact ⟨F', e, s'.push r'⟩
theorem l_op {o : Op} {as : List Arg} (h : PE X e (tO C Φ W o as)) : PE X e (tL' C Φ W (.app o as)) := h.weak fun σ H Q q => by
  obtain ⟨ρ, F, s, p⟩ := q
  have p : PostL C W σ F ((evE Φ (.app o as) ρ).bind fun p ρ1 => .ok (ownV o p) ρ1) fun _ _ _ H' v => Q v H' := p
  have p := p.bindV
  unfold evE at p
  refine ⟨ρ, F, s, p.bind.imp fun as ρ1 F1 H1 e1 s1 k vs r => ?_⟩
  obtain ⟨x, hx, k⟩ := k.of
  obtain ⟨ps, h1, h2⟩ := Option.bind_eq_some_iff.mp hx
  obtain ⟨ps', hb', h2'⟩ := opX_sem (r.b s1 h1) h2
  refine ⟨F1, ps', x, s1.le, hb', h2', fun v H2 h3 => ?_⟩
  obtain ⟨F3, e3, s3⟩ := ResR.keepL s1 h3
  exact k F1 H1 (Same.refl F1) s1 F3 H2 v e3 s3
theorem l_mth {o : Op} {a : Arg} {as : List Arg} (h : PE X e (tM C Φ W o a as)) : PE X e (tL' C Φ W (.mth o a as)) := h.weak fun σ H Q q => by
  obtain ⟨ρ, F, s, p⟩ := q
  have p : PostL C W σ F ((evE Φ (.mth o a as) ρ).bind fun p ρ1 => .ok (ownV o p) ρ1) fun _ _ _ H' v => Q v H' := p
  have p := p.bindV
  unfold evE at p
  refine ⟨ρ, F, s, p.bind.imp fun av ρ1 F1 H1 e1 s1 k v r => ?_⟩
  split at k
  · rename_i hr
    have hp : ∃ p, av.pv ρ1 = some p := by
      cases e : av.pv ρ1 with
      | none => rw [e] at hr; cases o <;> cases hr
      | some p => exact ⟨p, rfl⟩
    obtain ⟨p1, hp1⟩ := hp
    refine ⟨⟨F1, p1, s1.le, by rw [← hp1]; exact hr, (r.b s1 hp1).toB⟩, ρ1, F1, s1, k.bind.imp fun as ρ2 F2 H2 e2 s2 k2 vs rs => ?_⟩
    obtain ⟨x, hx, k⟩ := k2.of
    obtain ⟨ps, h1, h2⟩ := Option.bind_eq_some_iff.mp hx
    refine ⟨F2, ps, x, s2.le, (AVRs.b s2 (as := av :: as) ⟨v, vs, rfl, r.mono e2, rs⟩ h1).toO, h2, fun v H2 h3 => ?_⟩
    obtain ⟨F3, e3, s3⟩ := ResR.keepL s2 h3
    exact k F2 _ (Same.refl F2) s2 F3 H2 v e3 s3
  · exact False.elim k
/-- a value that is frozen anyway -/
theorem l_of {ir : Ex} (h : PE X e (tE C Φ W ir)) (hl : ∀ ρ, evL Φ ir ρ = (evE Φ ir ρ).bind fun p ρ1 => .ok (.fro p) ρ1 := by intro _; rfl) : PE X e (tL' C Φ W ir) := h.weak fun σ H Q q => by
  obtain ⟨ρ, F, s, p⟩ := q
  rw [hl] at p
  exact ⟨ρ, F, s, p.bindV.imp fun p ρ1 F1 H1 e1 s1 k v r => k F1 H1 v (Same.refl F1) (s1.push r)⟩
/-- an own value, frozen -/
theorem e_ofL {ir : Ex} (h : PE X e (tL' C Φ W ir)) (hl : ∀ ρ, evE Φ ir ρ = froE (evL Φ ir ρ)) : PE X e (tE C Φ W ir) := h.weak fun σ H Q q => by
  obtain ⟨ρ, F, s, p⟩ := q
  refine ⟨ρ, F, s, ?_⟩
  rw [hl] at p
  unfold froE at p
  cases hr : evL Φ ir ρ with
  | ok l ρ1 =>
    rw [hr] at p
    intro F' H' v e' s'
    have p : Post C W σ F (ER.of l.pv ρ1) fun p _ F' H' => ∀ v, Rep C.K F' p v → Q v H' := p
    obtain ⟨x, hx, k⟩ := p.of
    obtain ⟨F2, e2, s2, r2⟩ := SR.popL s' hx
    exact k F2 H' (e'.trans e2) s2 v r2
  | ex c ρ1 =>
    rw [hr] at p
    exact p
  | st =>
    rw [hr] at p
    exact p

/-! ### names, constants -/
theorem e_var {i : Nat} (hN : X.N[i]? = some x) (hv : Vis X.env.scope x) (hd : (x == ("__debug__" : Str)) = false := by decide) (hcd : (x == ("__classdict__" : Str)) = false := by decide) : PE X (.Name x p) (tE C Φ W (.var i)) :=
  (pe_var hN hv hd hcd).weak fun _ _ _ q => tE_var q
theorem a_var {i : Nat} (hN : X.N[i]? = some x) (hv : Vis X.env.scope x) (hd : (x == ("__debug__" : Str)) = false := by decide) (hcd : (x == ("__classdict__" : Str)) = false := by decide) : PE X (.Name x p) (tA1 C Φ W (.ref i)) :=
  (pe_var hN hv hd hcd).weak fun _ _ _ q => tA1_var q
theorem a_val {ir : Ex} (h : PE X e (tE C Φ W ir)) : PE X e (tA1 C Φ W (.val ir)) := h.weak fun _ _ _ q => tA1_of q
theorem tE_cst {c : PV} {v : V} {σ : L2.St} {H : Hp} {Q : VK} (hr : ∀ K F, Rep K F c v) (q : tE C Φ W (.cst c) σ H Q) : tC v σ H Q := by
  obtain ⟨ρ, F, s, p⟩ := q
  unfold evE at p
  exact p F H (Same.refl F) s v (hr _ _)
theorem e_int {i : Int} {j} : PE X (.Constant (.int i) j pos) (tE C Φ W (.cst (.int i))) := pe_int.weak fun _ _ _ q => tE_cst (c := .int i) (fun _ _ => rfl) q
theorem e_bl {i : Bool} {j} : PE X (.Constant (.bool i) j pos) (tE C Φ W (.cst (.bl i))) := pe_bl.weak fun _ _ _ q => tE_cst (c := .bl i) (fun _ _ => rfl) q
theorem e_non {j} : PE X (.Constant .none j pos) (tE C Φ W (.cst .non)) := pe_non.weak fun _ _ _ q => tE_cst (c := .non) (fun _ _ => rfl) q
theorem e_str {i : Str} {j} : PE X (.Constant (.str i) j pos) (tE C Φ W (.cst (.str i))) := pe_str.weak fun _ _ _ q => tE_cst (c := .str i) (fun _ _ => rfl) q

/-! ### argument lists -/
theorem as_nil : PA X [] (tAs C Φ W []) := pa_nil.weak fun _ _ _ q => tAs_nil q
theorem as_cons {ir : Arg} {irs : List Arg} (h : PE X e (tA1 C Φ W ir)) (hr : PA X es (tAs C Φ W irs)) (hs : starEach (e :: es) X.env = (false, eval e X.env) :: starEach es X.env := by rfl) : PA X (e :: es) (tAs C Φ W (ir :: irs)) :=
  (pa_cons h hr hs).weak fun _ _ _ q => tAs_cons q
theorem es_nil : PA X [] (tEs C Φ W []) := pa_nil.weak fun _ _ _ q => tEs_nil q
theorem es_cons {ir : Ex} {irs : List Ex} (h : PE X e (tE C Φ W ir)) (hr : PA X es (tEs C Φ W irs)) (hs : starEach (e :: es) X.env = (false, eval e X.env) :: starEach es X.env := by rfl) : PA X (e :: es) (tEs C Φ W (ir :: irs)) :=
  (pa_cons h hr hs).weak fun _ _ _ q => tEs_cons q

/-! ### operations -/
theorem o_bin {op : Operator} {o : Op} {ia ib : Arg} (ho : OpR X (binaryOp op) (R2of C.K o)) (ha : PE X a (tA1 C Φ W ia)) (hb : PE X b (tA1 C Φ W ib)) : PE X (.BinOp a op b pos) (tO C Φ W o [ia, ib]) :=
  (pe_op ho ha hb).weak fun _ _ _ q => tO_2 q
theorem o_cmp {op : CmpOp} {o : Op} {ia ib : Arg} (ho : OpR X (compareOp op) (R2of C.K o)) (hm : behindInMarks op b = false) (ha : PE X a (tA1 C Φ W ia)) (hb : PE X b (tA1 C Φ W ib)) : PE X (.Compare a [op] [b] pos) (tO C Φ W o [ia, ib]) :=
  (pe_cmpR ho ha hb hm).weak fun _ _ _ q => tO_2 q
/-- a builtin function; a builtin type -/
theorem o_blt {id : String} {o : Op} {irs : List Arg} (hc : CallR X (.builtin id) (fun xs H Q => rOp C.K o xs H Q)) (hg : Gl X x) (hm : X.mg x = none) (hv : bootBuiltins x = some (.builtin id)) (ha : PA X (e :: es) (tAs C Φ W irs)) (hn : x ≠ "__name__" := by decide) (hdb : (x == ("__debug__" : Str)) = false := by decide)
    (he : starEach (e :: es) X.env = (false, eval e X.env) :: starEach es X.env := by rfl) (hpl : (backTo pos (starEach es X.env)).any (·.1) = false := by rfl) : PE X (.Call (.Name x p) (e :: es) [] pos) (tO C Φ W o irs) :=
  (pe_callB hc hg hm hv ha hn hdb he hpl).weak fun _ _ _ q => q
theorem o_ty {id : String} {o : Op} {irs : List Arg} (hc : CallR X (.type id) (fun xs H Q => rOp C.K o xs H Q)) (hg : Gl X x) (hm : X.mg x = none) (hv : bootBuiltins x = some (.type id)) (ha : PA X (e :: es) (tAs C Φ W irs)) (hn : x ≠ "__name__" := by decide) (hdb : (x == ("__debug__" : Str)) = false := by decide)
    (he : starEach (e :: es) X.env = (false, eval e X.env) :: starEach es X.env := by rfl) (hpl : (backTo pos (starEach es X.env)).any (·.1) = false := by rfl) : PE X (.Call (.Name x p) (e :: es) [] pos) (tO C Φ W o irs) :=
  (pe_callTy hc hg hm hv ha hn hdb he hpl).weak fun _ _ _ q => q
/-- a[b] -/
theorem o_ix (o : XO X C) {ia ib : Arg} (ha : PE X a (tA1 C Φ W ia)) (hb : PE X b (tA1 C Φ W ib)) (hs : PlainIx b := by intro _ _; rfl) : PE X (.Subscript a b pos) (tO C Φ W .idx [ia, ib]) :=
  (pe_ix (ir_idx (by have := o.un; omega)) ha hb hs).weak fun _ _ _ q => by rw [← o.K]; exact tO_2 q
/-! slices -/
theorem rOp_int {K : PySem.W.Frag} {lo hi : Bool} {x y : V} {ys : List V} {H : Hp} {Q : VK} (h : rOp K (.slc lo hi) (x :: y :: ys) H Q) (hb : (lo || hi) = true) : ∃ i, y = .int i := by
  obtain ⟨F, ps, r, e, rb, hs, _⟩ := h
  cases ps with
  | nil => cases rb
  | cons p ps =>
    obtain ⟨v, rr, ee, _, rb⟩ := rb
    cases ee
    have hs : slcP lo hi (p :: ps) = some r := hs
    unfold slcP at hs
    dsimp only at hs
    cases ps with
    | nil => cases rb
    | cons q ps =>
      obtain ⟨v', rr', ee', rq, rb'⟩ := rb
      cases ee'
      have hi : ∃ i, q = .int i := by
        cases lo with
        | true =>
          cases q with
          | int i => exact ⟨i, rfl⟩
          | _ => simp [slcPart] at hs
        | false =>
          cases hi with
          | true =>
            cases q with
            | int i => exact ⟨i, rfl⟩
            | _ => simp [slcPart] at hs
          | false => cases hb
      obtain ⟨i, rfl⟩ := hi
      exact ⟨i, rq⟩
theorem o_sl01 (o : XO X C) {ia ib : Arg} (ha : PE X a (tA1 C Φ W ia)) (hb : PE X b (tA1 C Φ W ib)) {p2 : Pos} : PE X (.Subscript a (.Slice none (some b) none p2) pos) (tO C Φ W (.slc false true) [ia, ib]) :=
  (pe_slice sr_slc ha po_none (po_some hb)).weak fun _ _ _ q => by
    refine (tO_2 q).imp fun x H' k => k.imp fun y H2 k2 => ?_
    obtain ⟨i, rfl⟩ := rOp_int k2 rfl
    refine ⟨i, rfl, ?_⟩
    show rOp X.K _ _ _ _
    rw [← o.K]; exact k2
end
end Br
set_option maxHeartbeats 1000000
/-! BrZ: zip of two sequences, each a list or a tuple. -/
namespace Br
open PySem PySem.Spec PyProof.Rows L2
/-- a kind of sequence, with its iterator -/
structure Kd where
  cls : String
  is : Heap → Addr → Array Value → Prop
  it : Heap → Addr → Addr → Nat → Prop
  sq : PySem.W.Frag → Hp → Addr → List V → Prop
  isE : ∀ {h h' : Heap} {a b : Addr} {xs : Array Value}, is h a xs → Heap.ExtBut b h h' → a ≠ b → is h' a xs
  isP : ∀ {h : Heap} {a : Addr} {xs : Array Value}, is h a xs → ∀ o, is (h.push o) a xs
  isL : ∀ {h : Heap} {a : Addr} {xs : Array Value}, is h a xs → a < h.objs.size
  itE : ∀ {h h' : Heap} {a b l : Addr} {i : Nat}, it h a l i → Heap.ExtBut b h h' → a ≠ b → it h' a l i
  itA : ∀ {h h' : Heap} {a l : Addr} {i : Nat}, it h a l i → (∀ o, h.get? a = some o → h'.get? a = some o) → it h' a l i
  itD : ∀ {h : Heap} {a l : Addr} {i : Nat}, it h a l i → ∃ o fs, h.get? a = some o ∧ o.data = .fields fs
  itN : ∀ {h : Heap} {a l : Addr}, h.get? a = some { cls := .type cls, data := .fields #[.ref l, .int 0 0] } → it h a l 0
  item : ∀ {prog : Program} {w : World} {A : Around} {E : Value → Shared → Prop} {s : Shared} {t l : Addr} {i : Nat} {items : Array Value} {x : Value} {Q : Value → Shared → Prop}, it s.heap t l i → is s.heap l items → items[i]? = some x →
    (∀ h', it h' t l (i + 1) → Heap.SameBut t s.heap h' → Q x { s with heap := h' }) → wpAny (model prog w) A (Builtin.SmallTypes.nextOf (.ref t)) Q E s
  fin : ∀ {prog : Program} {w : World} {A : Around} {E : Value → Shared → Prop} {s : Shared} {t l : Addr} {i : Nat} {items : Array Value} {Q : Value → Shared → Prop}, A.handled = none → it s.heap t l i → is s.heap l items → items[i]? = none →
    (∀ h' e, Heap.ExtBut t s.heap h' → (∃ o, h'.get? e = some o ∧ o.cls = .type "StopIteration") → E (.ref e) { s with heap := h' }) → wpAny (model prog w) A (Builtin.SmallTypes.nextOf (.ref t)) Q E s
  iter : ∀ {prog : Program} {w : World} {A : Around} {E : Value → Shared → Prop} {s : Shared} {l : Addr} {items : Array Value} {Q : Value → Shared → Prop}, is s.heap l items →
    Q (.ref s.heap.objs.size) { s with heap := s.heap.push { cls := .type cls, data := .fields #[.ref l, .int 0 0] } } → wpAny (model prog w) A (pyIter (.ref l)) Q E s
  rd : ∀ {X : Cx} {pins : List (Addr × Obj)} {σ : L2.St} {H : Hp} {s : Shared} {a : Addr} {xs : List V}, Inv X pins σ H s → sq X.K H a xs → ∃ its : List Value, Vals xs its ∧ is s.heap a its.toArray
  inj : ∀ {X : Cx} {pins : List (Addr × Obj)} {σ : L2.St} {H : Hp} {s : Shared} {a : Addr} {xs ys : List V}, Inv X pins σ H s → sq X.K H a xs → sq X.K H a ys → xs = ys
section
variable {prog : Program} {w : World} {A : Around} {E : Value → Shared → Prop} {s : Shared} (K1 K2 : Kd)
variable {K1 K2}
variable {z TI TO i1 i2 l1 l2 : Addr} {k1 k2 : Nat} {xs ys : Array Value} {x y a b : Value}
end
/-! the zip object -/
section
variable {prog : Program} {w : World} {A : Around} {E : Value → Shared → Prop} {s : Shared}
end
/-! the loop over it -/
end Br
set_option maxHeartbeats 1000000
/-! BrE3: displays, tests, calls, what loops walk. -/
namespace Br
open PySem PySem.Spec PyProof.Rows L2

theorem ER.bind_assoc {α β γ : Type} (r : ER α) (f : α → Env → ER β) (g : β → Env → ER γ) : (r.bind f).bind g = r.bind fun a ρ => (f a ρ).bind g := by cases r <;> rfl

section
variable {C : Cb} {Φ : Nat → List LV → CR} {W : WX} {X : Cx} {a b c e : Expr} {es : List Expr} {pos p : Pos} {x : Str}
/-! ### displays -/
theorem e_tup {k : Nat} {irs : List Ex} (h : PA X es (tEs C Φ W irs)) : PE X (.Tuple es k pos) (tE C Φ W (.tup irs)) := (pe_tup h).weak fun σ H Q q => by
  obtain ⟨ρ, F, s, q⟩ := q
  unfold evE at q
  refine ⟨ρ, F, s, q.bind.imp fun ps ρ1 F1 H1 e1 s1 k1 xs r => ?_⟩
  split at k1
  · rename_i hl
    refine ⟨by rw [← r.length]; exact lim_line hl, fun p hf => ?_⟩
    have e2 : Same F1 (upd F1 p (.tup xs)) := same_updF (s1.fnone hf)
    exact k1 _ _ e2 (s1.alloc hf _) _ ⟨p, xs, rfl, upd_same, r.mono e2⟩
  · exact False.elim k1
theorem l_lst {irs : List Ex} (h : PA X es (tEs C Φ W irs)) : PE X (.List es pos) (tL' C Φ W (.lst irs)) := (pe_lst h).weak fun σ H Q q => by
  obtain ⟨ρ, F, s, q⟩ := q
  have q : PostL C W σ F ((evE Φ (.lst irs) ρ).bind fun p ρ1 => .ok (.own p) ρ1) fun _ _ _ H' v => Q v H' := q
  have q := q.bindV
  unfold evE at q
  refine ⟨ρ, F, s, q.bind.imp fun ps ρ1 F1 H1 e1 s1 k1 xs r => ?_⟩
  split at k1
  · rename_i hl
    refine ⟨by rw [← r.length]; exact lim_line hl, fun p hf => ?_⟩
    exact k1 F1 H1 (Same.refl F1) s1 F1 _ _ (Same.refl F1) (s1.pushNew hf ⟨xs, upd_same, r⟩)
  · exact False.elim k1
theorem e_lst {irs : List Ex} (h : PE X e (tL' C Φ W (.lst irs))) : PE X e (tE C Φ W (.lst irs)) := e_ofL h fun ρ => by
  show evE Φ (.lst irs) ρ = ER.bind ((evE Φ (.lst irs) ρ).bind fun p ρ1 => ER.ok (LV.own p) ρ1) (fun l ρ => ER.of l.pv ρ)
  rw [ER.bind_assoc]
  cases evE Φ (.lst irs) ρ <;> rfl
/-! ### and, or, not, if -/
/-! ### chains -/
/-! ### tests -/
theorem tT_e {ir : Ex} {σ : L2.St} {H : Hp} {Q : Bool → Hp → Prop} (q : tT C Φ W (.e ir) σ H Q) : tE C Φ W ir σ H fun v H' => ∃ k, v = .bl k ∧ Q k H' := by
  obtain ⟨ρ, F, s, q⟩ := q
  unfold evT at q
  refine ⟨ρ, F, s, q.bind.imp fun p ρ1 F1 H1 e1 s1 k1 v r => ?_⟩
  cases p with
  | bl t => exact ⟨t, r, k1 F1 H1 (Same.refl F1) s1⟩
  | _ => exact False.elim k1
theorem t_val {ir : Ex} (h : PE X e (tE C Φ W ir)) (he : ∀ whole, isTrue e X.env whole = (do let v ← whole; standAt e.pos; holding [v] (truthy v)) := by intro _; rfl) : PT X e (tT C Φ W (.e ir)) :=
  (pt_val h he).weak fun _ _ _ q => tT_e q
theorem t_cmp {op : CmpOp} {o : Op} {ia ib : Arg} (ho : OpR X (compareOp op) (R2of C.K o)) (hm : behindInMarks op b = false) (ha : PE X a (tA1 C Φ W ia)) (hb : PE X b (tA1 C Φ W ib)) : PT X (.Compare a [op] [b] pos) (tT C Φ W (.e (.app o [ia, ib]))) :=
  (pt_cmpR ho ha hb hm).weak fun _ _ _ q => tO_2 (tE_app (tT_e q))
theorem w_or1 {ia : Tst} (ha : PT X a (tT C Φ W ia)) : PW X (.BoolOp .Or [a] pos) (tT C Φ W ia) := pw_or1 ha
theorem w_or {ia ib : Tst} (ha : PT X a (tT C Φ W ia)) (hb : PW X (.BoolOp .Or (b :: es) pos) (tT C Φ W ib)) : PW X (.BoolOp .Or (a :: b :: es) pos) (tT C Φ W (.or ia ib)) := (pw_or ha hb).weak fun σ H Q q => by
  obtain ⟨ρ, F, s, q⟩ := q
  unfold evT at q
  refine ⟨ρ, F, s, q.bind.imp fun t ρ1 F1 H1 e1 s1 k1 => ?_⟩
  cases t with
  | false => exact ⟨ρ1, F1, s1, k1⟩
  | true => exact k1 F1 H1 (Same.refl F1) s1
theorem t_not {ia : Tst} (ha : PT X a (tT C Φ W ia)) : PT X (.UnaryOp .Not a pos) (tT C Φ W (.not ia)) := (pt_not ha).weak fun σ H Q q => by
  obtain ⟨ρ, F, s, q⟩ := q
  unfold evT at q
  exact ⟨ρ, F, s, q.bind.imp fun t ρ1 F1 H1 e1 s1 k1 => k1 F1 H1 (Same.refl F1) s1⟩

/-! ### a slice with both ends -/
theorem e_sl11 (o : XO X C) {ia : Arg} {ib ic : Ex} (ha : PE X a (tA1 C Φ W ia)) (hb : PE X b (tE C Φ W ib)) (hc : PE X c (tE C Φ W ic)) {p2 : Pos} : PE X (.Subscript a (.Slice (some b) (some c) none p2) pos) (tE C Φ W (.sl2 ia ib ic)) :=
  (pe_slice sr_slc ha (po_some hb) (po_some hc)).weak fun σ H Q q => by
    obtain ⟨ρ, F, s, q⟩ := q
    unfold evE at q
    refine ⟨ρ, F, s, q.bind.imp fun av ρ1 F1 H1 e1 s1 k1 x rx => ⟨ρ1, F1, s1, k1.bind.imp fun p ρ2 F2 H2 e2 s2 k2 y ry => ?_⟩⟩
    cases p with
    | int i =>
      refine ⟨i, ry, ρ2, F2, s2, k2.bind.imp fun p ρ3 F3 H3 e3 s3 k3 z rz => ?_⟩
      cases p with
      | int j =>
        refine ⟨j, rz, ?_⟩
        obtain ⟨w, hw, k3⟩ := k3.of
        obtain ⟨xp, hx, hw⟩ := Option.bind_eq_some_iff.mp hw
        show rOp X.K (.slc true true) [x, .int i, .int j] H3 Q
        rw [← o.K]
        refine ⟨F3, [xp, .int i, .int j], w, s3.le, ⟨x, _, rfl, AVR.b s3 ((rx.mono e2).mono e3) hx, _, _, rfl, rfl, _, _, rfl, rfl, rfl⟩, hw, fun v H4 hr => ?_⟩
        obtain ⟨F4, e4, s4, r4⟩ := hr.fro s3
        exact k3 F4 H4 e4 s4 v r4
      | _ => exact False.elim k3
    | _ => exact False.elim k2

/-! ### calls -/
theorem pe_callS0 {CX : CXT} {k : Nat} {f : Addr} {fd : FuncData} {ps : List Str} {sp : Sp} {E : L2.St → XK} (F : FnOk X.prog X.w X.K X.mg X.base CX k f fd ps sp) (hr : Room k X.A) (hg : Gl X x) (hm : X.mg x = some (.ref f)) (hk : PySem.W.keepIn X.K (.ref f) = true) (hb : Binds X.K fd ps []) (hx : ∀ σ, PassesAt CX X σ (E σ))
    (hdb : (x == ("__debug__" : Str)) = false := by decide) : PE X (.Call (.Name x p) [] [] pos) (tCallS sp E tNil) := by
  refine ⟨fun pins s σ H Q I h => ?_⟩
  refine wpAny_Call_Name_kw (ld_glob I hg hm ?_ hdb)
  exact PySem.W.callWith_K0 I.kIn hk (run_fnS (us := []) F hr hb (hx σ) I .nil h)
theorem call_tL {j : Nat} {irs : List Arg} {σ : L2.St} {H : Hp} {Q : VK} (q : tL' C Φ W (.call j irs) σ H Q) : tCallS (spOf C.K (Φ j)) (WE W) (tAs C Φ W irs) σ H Q := by
  obtain ⟨ρ, F, s, q⟩ := q
  have q : PostL C W σ F ((evAs Φ irs ρ).bind fun avs ρ1 => callE (Φ j) avs ρ1) fun _ _ _ H' v => Q v H' := q
  refine ⟨ρ, F, s, q.bindV.imp fun avs ρ1 F1 H1 e1 s1 k1 vs rs => ?_⟩
  unfold callE at k1
  split at k1
  · rename_i ls hls
    split at k1
    · rename_i hnd
      obtain ⟨fp, sr, io⟩ := call_io s1 rs hls hnd
      refine ⟨F1, ls, fp, sr, ?_⟩
      split at k1
      · rename_i r ls' hg
        split at k1
        · rename_i hl
          try rw [hg]
          exact fun v H' F' sr' => k1 F' H' v sr'.f0 (io r v ls' F' H' sr' hl)
        · exact False.elim k1
      · rename_i cc ls' hg
        split at k1
        · rename_i hl
          try rw [hg]
          intro H' F' sr'
          exact k1 F' H' sr'.f0 (io (.fro .non) .non ls' F' H' (sr'.push rfl) hl).pop
        · exact False.elim k1
      · exact False.elim k1
    · exact False.elim k1
  · exact False.elim k1
theorem l_call {j k : Nat} {f : Addr} {fd : FuncData} {ps : List Str} {irs : List Arg} (o : XO X C) (F : FnOk X.prog X.w X.K X.mg X.base (L2.CX X.prog X.w) k f fd ps (spOf X.K (Φ j))) (hr : Room k X.A) (hg : Gl X x) (hm : X.mg x = some (.ref f)) (hk : PySem.W.keepIn X.K (.ref f) = true)
    (hb : Binds X.K fd ps []) (tk : Takes X W) (ha : PA X (e :: es) (tAs C Φ W irs)) (hdb : (x == ("__debug__" : Str)) = false := by decide) (he : starEach (e :: es) X.env = (false, eval e X.env) :: starEach es X.env := by rfl) (hpl : (backTo pos (starEach es X.env)).any (·.1) = false := by rfl) :
    PE X (.Call (.Name x p) (e :: es) [] pos) (tL' C Φ W (.call j irs)) := (pe_callS F hr hg hm hk hb (passAt tk) ha hdb he hpl).weak fun _ _ _ q => by rw [← o.K]; exact call_tL q
theorem l_call0 {j k : Nat} {f : Addr} {fd : FuncData} {ps : List Str} (o : XO X C) (F : FnOk X.prog X.w X.K X.mg X.base (L2.CX X.prog X.w) k f fd ps (spOf X.K (Φ j))) (hr : Room k X.A) (hg : Gl X x) (hm : X.mg x = some (.ref f)) (hk : PySem.W.keepIn X.K (.ref f) = true)
    (hb : Binds X.K fd ps []) (tk : Takes X W) (hdb : (x == ("__debug__" : Str)) = false := by decide) :
    PE X (.Call (.Name x p) [] [] pos) (tL' C Φ W (.call j [])) := (pe_callS0 F hr hg hm hk hb (passAt tk) hdb).weak fun _ _ _ q => by
  rw [← o.K]
  exact tAs_nil (call_tL q)
theorem e_call {j : Nat} {irs : List Arg} (h : PE X e (tL' C Φ W (.call j irs))) : PE X e (tE C Φ W (.call j irs)) := e_ofL h fun ρ => by
  show evE Φ (.call j irs) ρ = ER.bind ((evAs Φ irs ρ).bind fun avs ρ1 => callE (Φ j) avs ρ1) (fun l ρ => ER.of l.pv ρ)
  rw [ER.bind_assoc]
  unfold evE
  rfl
end

/-! ### what a loop walks -/
/-- J yields xs, all frozen (or in new pairs) -/
def Items (K : PySem.W.Frag) (F : Hp) (J : It) (xs : List PV) : Prop := ∀ i H, Same F H → (∀ p, xs[i]? = some p → J.go i H) ∧ (xs.length ≤ i → J.stop i H) ∧ ∀ x H' p, xs[i]? = some p → J.yld i H x H' →
  (H' = H ∧ Rep K F p x) ∨ ∃ a ys l, H a = none ∧ x = .ref a ∧ H' = upd H a (.tup ys) ∧ p = .tup l ∧ Reps K F l ys
def tSrc (C : Cb) (Φ : Nat → List LV → CR) (W : WX) (s : Src) : TI := fun σ H R => ∃ ρ F, SR C F ρ σ H ∧ Post C W σ F (evSrc Φ s ρ) fun xs _ F1 H1 => ∀ J, Items C.K F1 J xs → R J H1
theorem Reps.at {K : PySem.W.Frag} {F : Hp} : ∀ {ps : List PV} {xs : List V} {i : Nat} {p : PV}, Reps K F ps xs → ps[i]? = some p → ∃ x, xs[i]? = some x ∧ Rep K F p x := fun {ps} => by
  induction ps with
  | nil => intro xs i p r h; simp at h
  | cons q ps ih =>
    intro xs i p r h
    obtain ⟨v, xs', rfl, r1, r2⟩ := r
    cases i with
    | zero => simp at h; subst h; exact ⟨_, rfl, r1⟩
    | succ i =>
      obtain ⟨x, h1, h2⟩ := ih r2 (by simpa using h)
      exact ⟨x, by simpa using h1, h2⟩
section
variable {X : Cx} {C : Cb} {Φ : Nat → List LV → CR} {W : WX} {a b e tg : Expr} {pos p : Pos}
theorem items_l {K : PySem.W.Frag} {F : Hp} {l : List PV} {xs : List V} {a : Addr} (h : SqE K F a xs) (r : Reps K F l xs) : Items K F (Itl K a) l := fun i H e => by
  have q : SqL K H a xs := (Same.sqe e h).sql
  refine ⟨fun p hp => ?_, fun hl => ⟨xs, q, by rw [← r.length]; exact hl⟩, fun x H' p hp y => .inl ?_⟩
  · obtain ⟨x, h1, _⟩ := r.at hp
    exact ⟨xs, x, q, h1⟩
  · obtain ⟨x', h1, h2⟩ := r.at hp
    obtain ⟨e1, y⟩ := y
    have := y xs q
    rw [h1] at this
    cases this
    exact ⟨e1, h2⟩
theorem items_t {K : PySem.W.Frag} {F : Hp} {l : List PV} {xs : List V} {a : Addr} (h : SqT K F a xs) (r : Reps K F l xs) : Items K F (Itt K a) l := fun i H e => by
  have q : SqT K H a xs := Same.sqt e h
  refine ⟨fun p hp => ?_, fun hl => ⟨xs, q, by rw [← r.length]; exact hl⟩, fun x H' p hp y => .inl ?_⟩
  · obtain ⟨x, h1, _⟩ := r.at hp
    exact ⟨xs, x, q, h1⟩
  · obtain ⟨x', h1, h2⟩ := r.at hp
    obtain ⟨e1, y⟩ := y
    have := y xs q
    rw [h1] at this
    cases this
    exact ⟨e1, h2⟩
/-- a list or a tuple -/
def iSeq (K : PySem.W.Frag) (tl : TE) : TI := fun σ H R => tl σ H fun x H1 => ∃ a, x = .ref a ∧ (((∃ xs, SqL K H1 a xs) ∧ R (Itl K a) H1) ∨ ((∃ xs, SqT K H1 a xs) ∧ R (Itt K a) H1))
theorem pi_seq {l : Expr} {tl : TE} (hl : PE X l tl) : PI X tg l (iSeq X.K tl) := by
  refine ⟨fun pins s σ H R I h => ?_⟩
  refine thn (hl.run pins s σ H _ I h) fun v s1 ⟨x, H1, I1, r1, q1⟩ => ?_
  obtain ⟨a, e, ⟨⟨xs, hq⟩, q⟩ | ⟨⟨xs, hq⟩, q⟩⟩ := q1
  · subst e
    cases r1
    obtain ⟨its, rv, p, hz⟩ := I1.list hq
    refine wpAny_pyIter_list p.isList ?_
    refine ⟨s1.heap.objs.size, [s1.heap.objs.size], _, _, H1, rfl, I1.kept (t' := s1.toks) fun b o e => Heap.get?_push_of_some _ e, turn_list a _, ⟨_, Heap.get?_push_size _ rfl, rfl, rfl⟩, fun b hb => ?_, q⟩
    have e : b = s1.heap.objs.size := by simpa using hb
    subst e
    exact I1.fpOk (Nat.le_refl _) (I1.hok.fresh (Nat.le_refl _))
  · subst e
    cases r1
    obtain ⟨its, rv, p, hz⟩ := I1.tuple hq
    refine wpAny_pyIter_tuple (show s1.heap.IsTuple a its.toArray from p) ?_
    refine ⟨s1.heap.objs.size, [s1.heap.objs.size], _, _, H1, rfl, I1.kept (t' := s1.toks) fun b o e => Heap.get?_push_of_some _ e, turn_tuple a _, ⟨_, Heap.get?_push_size _ rfl, rfl, rfl⟩, fun b hb => ?_, q⟩
    have e : b = s1.heap.objs.size := by simpa using hb
    subst e
    exact I1.fpOk (Nat.le_refl _) (I1.hok.fresh (Nat.le_refl _))
theorem s_seq (o : XO X C) {ir : Ex} (h : PE X e (tE C Φ W ir)) : PI X tg e (tSrc C Φ W (.seq ir)) := (pi_seq h).weak fun σ H R q => by
  obtain ⟨ρ, F, s, q⟩ := q
  unfold evSrc at q
  refine ⟨ρ, F, s, q.bind.imp fun p ρ1 F1 H1 e1 s1 k1 v r => ?_⟩
  obtain ⟨xs, hx, k1⟩ := k1.of
  rw [seqOf_dn] at hx
  replace r := r.dn
  generalize p.dn = p at hx r
  cases p with
  | lst l =>
    cases hx
    obtain ⟨a, ys, rfl, hr, rr⟩ := r
    refine ⟨a, rfl, .inl ⟨⟨ys, ?_⟩, ?_⟩⟩
    · exact (by rw [← o.K]; exact (Same.sqe s1.le hr).sql)
    · rw [← o.K]; exact k1 F1 H1 (Same.refl F1) s1 _ (items_l hr rr)
  | tup l =>
    cases hx
    obtain ⟨a, ys, rfl, hr, rr⟩ := r
    refine ⟨a, rfl, .inr ⟨⟨ys, ?_⟩, ?_⟩⟩
    · rw [← o.K]; exact Same.sqt s1.le hr
    · rw [← o.K]; exact k1 F1 H1 (Same.refl F1) s1 _ (items_t hr rr)
  | xt l =>
    cases hx
    obtain ⟨a, ys, ob, rfl, hr, _, rr⟩ := r
    have hr : SqT C.K F1 a ys := .inl (.inr ⟨ob, hr⟩)
    refine ⟨a, rfl, .inr ⟨⟨ys, ?_⟩, ?_⟩⟩
    · rw [← o.K]; exact Same.sqt s1.le hr
    · rw [← o.K]; exact k1 F1 H1 (Same.refl F1) s1 _ (items_t hr rr)
  | gt l =>
    cases hx
    obtain ⟨a, ys, rfl, hr, rr⟩ := r
    refine ⟨a, rfl, .inr ⟨⟨ys, ?_⟩, ?_⟩⟩
    · rw [← o.K]; exact Same.sqt s1.le hr
    · rw [← o.K]; exact k1 F1 H1 (Same.refl F1) s1 _ (items_t hr rr)
  | _ => cases hx
theorem items_r {K : PySem.W.Frag} {F : Hp} {a b : Int} : Items K F (Itr a (b - a).toNat) (rngP a b) := fun i H e => by
  have hlen : (rngP a b).length = (b - a).toNat := by simp [rngP]
  refine ⟨fun p hp => ?_, fun hl => by rw [hlen] at hl; exact hl, fun x H' p hp y => .inl ?_⟩
  · have := (List.getElem?_eq_some_iff.mp hp).1
    rw [hlen] at this
    exact this
  · obtain ⟨e1, rfl⟩ := y
    have h1 := (List.getElem?_eq_some_iff.mp hp).1
    rw [hlen] at h1
    have : p = .int (a + (i : Nat)) := by
      have h2 := (List.getElem?_eq_some_iff.mp hp).2
      rw [← h2]
      simp [rngP]
    subst this
    exact ⟨e1, rfl⟩
theorem s_rng1 (hg : Gl X "range") (hm : X.mg "range" = none) {ia : Ex} (ha : PE X a (tE C Φ W ia)) (hs : starEach [a] X.env = (false, eval a X.env) :: starEach [] X.env := by rfl) : PI X tg (.Call (.Name "range" p) [a] [] pos) (tSrc C Φ W (.rng1 ia)) :=
  (pi_range1 hg hm (pa_cons ha pa_nil hs) hs).weak fun σ H R q => by
    obtain ⟨ρ, F, s, q⟩ := q
    unfold evSrc at q
    refine ⟨ρ, F, s, q.bind.imp fun p ρ1 F1 H1 e1 s1 k1 v r => ?_⟩
    cases p with
    | int j =>
      dsimp only at k1
      split at k1
      · rename_i hj
        refine ⟨j, by rw [show v = .int j from r], hj.1, hj.2, ?_⟩
        have := items_r (K := C.K) (F := F1) (a := 0) (b := j)
        rw [Int.sub_zero] at this
        exact k1 F1 H1 (Same.refl F1) s1 _ this
      · exact False.elim k1
    | _ => exact False.elim k1
end
end Br
set_option maxHeartbeats 1000000
/-! BrE4: targets, comprehensions. -/
namespace Br
open PySem PySem.Spec PyProof.Rows L2

/-! ### targets -/
mutual
def Tg.ix : Tg → List Nat
  | .one i => [i]
  | .at _ _ => []
  | .atV _ _ => []
  | .tup ts => Tg.ixs ts
def Tg.ixs : List Tg → List Nat
  | [] => []
  | t :: ts => t.ix ++ Tg.ixs ts
end
/-- only these slots differ -/
def Only (ix : List Nat) (σ σ' : L2.St) : Prop := σ'.length = σ.length ∧ ∀ i, i ∉ ix → σ'[i]? = σ[i]?
theorem Only.refl {ix : List Nat} {σ : L2.St} : Only ix σ σ := ⟨rfl, fun _ _ => rfl⟩
theorem Only.set {i : Nat} {σ : L2.St} {x : Option V} : Only [i] σ (σ.set i x) := ⟨by simp, fun j hj => by rw [List.getElem?_set_ne (by intro e; apply hj; simp [e])]⟩
theorem Only.trans {ix jx : List Nat} {σ σ' σ'' : L2.St} (a : Only ix σ σ') (b : Only jx σ' σ'') : Only (ix ++ jx) σ σ'' := ⟨b.1.trans a.1, fun i hi => by
  rw [b.2 i fun h => hi (List.mem_append_right _ h), a.2 i fun h => hi (List.mem_append_left _ h)]⟩
def tG (C : Cb) (t : Tg) : TG := fun v σ H Q => ∃ ρ F p ρ', SR C F ρ σ H ∧ Rep C.K F p v ∧ t.bind p ρ = some ρ' ∧ ∀ σ' H', Only t.ix σ σ' → SR C F ρ' σ' H' → Q σ' H'
theorem _root_.L2.PG.weak {X : Cx} {e : Expr} {t t' : TG} (h : PG X e t) (i : ∀ v σ H Q, t' v σ H Q → t v σ H Q) : PG X e t' := ⟨fun pins s σ H v u Q I r q => h.run pins s σ H v u Q I r (i _ _ _ _ q)⟩
theorem _root_.L2.PGs.weak {X : Cx} {e : List Expr} {t t' : TGs} (h : PGs X e t) (i : ∀ v σ H Q, t' v σ H Q → t v σ H Q) : PGs X e t' := ⟨fun pins s σ H v u Q I r q => h.run pins s σ H v u Q I r (i _ _ _ _ q)⟩
section
variable {C : Cb} {X : Cx} {e : Expr} {es : List Expr} {pos : Pos} {x : Str}
theorem g_name {i : Nat} (o : XO X C) (hi : X.N[i]? = some x) (hx : Loc X.env.scope x) (hf : X.fn x = true ∨ X.env.scope.names.lookup x = some .local := by first | exact .inl rfl | exact .inr rfl | assumption) : PG X (.Name x pos) (tG C (.one i)) :=
  (pg_name o.nd hi hx hf).weak fun v σ H Q q => by
    obtain ⟨ρ, F, p, ρ', s, r, hb, k⟩ := q
    cases hb
    exact k _ _ Only.set (s.setFro r i)
end

/-! ### a frame's part -/
section
variable {C : Cb} {F H : Hp} {ρ : Env} {σ : L2.St} {l : LV} {v : V}
/-- the top slot set aside: whatever keeps the rest keeps it -/
theorem SR.enterK (s : SR C F (some l :: ρ) (some v :: σ) H) : ∃ A fp0 : List Addr, (RepL C.K F H l v fp0 ∧ ∀ a ∈ fp0, a ∉ A) ∧ SR ⟨C.K, H, F, A⟩ F ρ σ H ∧ ∀ F' ρ' σ' H', SR ⟨C.K, H, F, A⟩ F' ρ' σ' H' → SR C F' (some l :: ρ') (some v :: σ') H' := by
  obtain ⟨fp, h1, h2⟩ := s.own
  let sel : Nat → List Addr := fun j => match ρ[j]? with
    | some (some _) => fp (j + 1)
    | _ => []
  have selE : ∀ j m, ρ[j]? = some (some m) → sel j = fp (j + 1) := fun j m e => by
    show (match ρ[j]? with
      | some (some _) => fp (j + 1)
      | _ => []) = _
    rw [e]
  have memA : ∀ a, a ∈ (List.range ρ.length).flatMap sel → ∃ j m, ρ[j]? = some (some m) ∧ a ∈ fp (j + 1) := fun a ha => by
    obtain ⟨j, _, hj⟩ := List.mem_flatMap.mp ha
    have hj : a ∈ (match ρ[j]? with
      | some (some _) => fp (j + 1)
      | _ => []) := hj
    split at hj
    · rename_i m e
      exact ⟨j, m, e, hj⟩
    · cases hj
  have inA : ∀ a j m, ρ[j]? = some (some m) → a ∈ fp (j + 1) → a ∈ (List.range ρ.length).flatMap sel := fun a j m e ha => List.mem_flatMap.mpr ⟨j, List.mem_range.mpr (List.getElem?_eq_some_iff.mp e).1, by rw [selE j m e]; exact ha⟩
  have AO : ∀ a, a ∈ (List.range ρ.length).flatMap sel → C.O a := fun a ha => by
    obtain ⟨j, m, e, hj⟩ := memA a ha
    obtain ⟨_, _, _, _, q⟩ := h1 (j + 1) m (by simpa using e)
    exact (q a hj).2
  have A0 : ∀ a ∈ fp 0, a ∉ (List.range ρ.length).flatMap sel := fun a ha hb => by
    obtain ⟨j, m, e, hj⟩ := memA a hb
    exact h2 0 (j + 1) l m (by omega) rfl (by simpa using e) a ha hj
  obtain ⟨v0, hv0, r0, n0, q0⟩ := h1 0 l rfl
  have ev : v0 = v := by simpa using hv0.symm
  subst ev
  refine ⟨(List.range ρ.length).flatMap sel, fp 0, ⟨r0, A0⟩, ⟨s.le, Same.refl F, fun a o h _ => h, fun a h => .inl h, by simpa using s.len, fun j => fp (j + 1), fun j m e => ?_, fun i j m m' hij e e' => ?_⟩, fun F' ρ' σ' H' s' => ?_⟩
  · obtain ⟨w, hw, rl, nd, q⟩ := h1 (j + 1) m (by simpa using e)
    exact ⟨w, by simpa using hw, rl, nd, fun a ha => ⟨(q a ha).1, .inl (inA a j m e ha)⟩⟩
  · exact h2 (i + 1) (j + 1) m m' (by omega) (by simpa using e) (by simpa using e')
  · obtain ⟨fq, k1, k2⟩ := s'.own
    have keepH : ∀ a o, H a = some o → a ∉ (List.range ρ.length).flatMap sel → H' a = some o := s'.keep
    have foF : ∀ a, F' a ≠ none → F a ≠ none ∨ (a ∈ (List.range ρ.length).flatMap sel ∨ H a = none ∨ ∃ xs, H a = some (.tup xs)) := s'.fo
    have newO : ∀ a, (a ∈ (List.range ρ.length).flatMap sel ∨ H a = none) → C.O a := fun a h => by
      rcases h with h | h
      · exact AO a h
      · exact s.fresh h
    have there0 : ∀ a ∈ fp 0, ∃ o, H a = some o := fun a ha => r0.there a ha
    refine ⟨s'.le, s.f0.trans s'.f0, fun a o e ha => ?_, fun a e => ?_, by simpa using s'.len, fun n => match n with
      | 0 => fp 0
      | j + 1 => fq j, fun n m e => ?_, fun n n' m m' hnn e e' => ?_⟩
    · refine keepH a o (s.keep a o e ha) fun hf => ?_
      rcases AO a hf with z | z | ⟨ys, z⟩
      · exact ha z
      · rw [e] at z; cases z
      · obtain ⟨j, m, em, hj⟩ := memA a hf
        obtain ⟨_, _, rl, _⟩ := h1 (j + 1) m (by simpa using em)
        exact rl.noTup a hj ys (s.keep a _ z ha)
    · rcases foF a e with z | z
      · exact s.fo a z
      · rcases z with z | z | ⟨ys, z⟩
        · exact .inr (newO a (.inl z))
        · exact .inr (newO a (.inr z))
        · exact .inr (s.oTup z)
    · cases n with
      | zero =>
        have e1 : l = m := by simpa using e
        subst e1
        refine ⟨v0, rfl, r0.frame s'.f0 fun a ha => ?_, n0, fun a ha => ⟨?_, (q0 a ha).2⟩⟩
        · obtain ⟨o, ho⟩ := there0 a ha
          rw [keepH a o ho (A0 a ha), ho]
        · cases z : F' a with
          | none => rfl
          | some o =>
            rcases foF a (by rw [z]; exact fun w => nomatch w) with w | w | w | ⟨ys, w⟩
            · exact absurd (q0 a ha).1 w
            · exact absurd w (A0 a ha)
            · obtain ⟨o', ho⟩ := there0 a ha
              rw [ho] at w; cases w
            · exact absurd w (r0.noTup a ha ys)
      | succ j =>
        obtain ⟨w, hw, rl, nd, q⟩ := k1 j m (by simpa using e)
        exact ⟨w, by simpa using hw, rl, nd, fun a ha => ⟨(q a ha).1, newO a (s'.oOwn rl ha (q a ha).2)⟩⟩
    · have ap : ∀ j m, ρ'[j]? = some (some m) → ∀ a ∈ fq j, a ∉ fp 0 := fun j m e a ha hb => by
        obtain ⟨_, _, rq, _, q⟩ := k1 j m e
        rcases s'.oOwn rq ha (q a ha).2 with w | w
        · exact A0 a hb w
        · obtain ⟨o', ho⟩ := there0 a hb
          have w : H a = none := w
          rw [ho] at w; cases w
      cases n with
      | zero =>
        cases n' with
        | zero => exact absurd rfl hnn
        | succ j => exact fun a ha hb => ap j m' (by simpa using e') a hb ha
      | succ i =>
        cases n' with
        | zero => exact fun a ha hb => ap i m (by simpa using e) a ha hb
        | succ j => exact k2 i j m m' (by omega) (by simpa using e) (by simpa using e')
theorem SR.enter (s : SR C F (some l :: ρ) (some v :: σ) H) : ∃ A : List Addr, SR ⟨C.K, H, F, A⟩ F ρ σ H ∧ ∀ F' ρ' σ' H', SR ⟨C.K, H, F, A⟩ F' ρ' σ' H' → SR C F' (some l :: ρ') (some v :: σ') H' := by
  obtain ⟨A, _, _, h1, h2⟩ := s.enterK
  exact ⟨A, h1, h2⟩
theorem wipe_at (σ : L2.St) : ∀ (vs : List Nat) (i : Nat), i ∉ vs → (wipe σ vs)[i]? = σ[i]?
  | [], i, _ => rfl
  | v :: vs, i, h => by
    unfold wipe
    rw [List.getElem?_set_ne (by intro e; apply h; simp [e]), wipe_at σ vs i fun z => h (List.mem_cons_of_mem _ z)]
theorem wipe_in (σ : L2.St) : ∀ (vs : List Nat) (i : Nat), i ∈ vs → i < σ.length → (wipe σ vs)[i]? = some none
  | [], i, h, _ => by cases h
  | v :: vs, i, h, hl => by
    unfold wipe
    by_cases e : v = i
    · subst e
      rw [List.getElem?_set_self (by rw [wipe_length]; exact hl)]
    · rw [List.getElem?_set_ne e]
      exact wipe_in σ vs i (by rcases List.mem_cons.mp h with z | z; exact absurd z.symm e; exact z) hl
theorem wipe_eq {σ σ' : L2.St} {vs : List Nat} (h : Only vs σ σ') : wipe σ' vs = wipe σ vs := by
  apply List.ext_getElem?
  intro i
  by_cases hi : i ∈ vs
  · by_cases hl : i < σ.length
    · rw [wipe_in σ vs i hi hl, wipe_in σ' vs i hi (by rw [h.1]; exact hl)]
    · have h1 := h.1
      rw [List.getElem?_eq_none (l := wipe σ vs) (by rw [wipe_length]; omega), List.getElem?_eq_none (l := wipe σ' vs) (by rw [wipe_length]; omega)]
  · rw [wipe_at σ vs i hi, wipe_at σ' vs i hi, h.2 i hi]
theorem wipe_only (σ : L2.St) (vs : List Nat) : Only vs σ (wipe σ vs) := ⟨wipe_length σ vs, fun i hi => wipe_at σ vs i hi⟩
theorem SR.wipes (s : SR C F ρ σ H) : ∀ vs : List Nat, SR C F (wipeE ρ vs) (wipe σ vs) H
  | [] => s
  | v :: vs => (SR.wipes s vs).clear v none
theorem backE_len (ρ ρ' : Env) : ∀ vs : List Nat, (backE ρ ρ' vs).length = ρ'.length
  | [] => rfl
  | v :: vs => by
    unfold backE
    split <;> rw [List.length_set, backE_len ρ ρ' vs]
theorem backE_get {ρ ρ' : Env} : ∀ {vs : List Nat} {i : Nat} {l : LV}, (backE ρ ρ' vs)[i]? = some (some l) → (i ∉ vs ∧ ρ'[i]? = some (some l)) ∨ ∃ p, l = .fro p ∧ ρ[i]? = some (some (.fro p))
  | [], i, l, h => .inl ⟨by simp, h⟩
  | v :: vs, i, l, h => by
    unfold backE at h
    split at h
    · rename_i p e
      rcases set_get h with ⟨rfl, z, _⟩ | ⟨z, q⟩
      · cases z
        exact .inr ⟨p, rfl, e⟩
      · rcases backE_get q with ⟨q1, q2⟩ | q
        · exact .inl ⟨fun hm => by
            rcases List.mem_cons.mp hm with w | w
            · exact z w.symm
            · exact q1 w, q2⟩
        · exact .inr q
    · rcases set_get h with ⟨rfl, z, _⟩ | ⟨z, q⟩
      · cases z
      · rcases backE_get q with ⟨q1, q2⟩ | q
        · exact .inl ⟨fun hm => by
            rcases List.mem_cons.mp hm with w | w
            · exact z w.symm
            · exact q1 w, q2⟩
        · exact .inr q
theorem SR.backs {ρ1 : Env} {vs : List Nat} (s : SR C F ρ (wipe σ vs) H) (hr : ∀ (i : Nat) (p : PV), ρ1[i]? = some (some (LV.fro p)) → ∃ w, σ[i]? = some (some w) ∧ Rep C.K F p w) : SR C F (backE ρ1 ρ vs) σ H := by
  obtain ⟨fp, h1, h2⟩ := s.own
  classical
  have key : ∀ i l, (backE ρ1 ρ vs)[i]? = some (some l) → (i ∉ vs ∧ ρ[i]? = some (some l)) ∨ (∃ p, l = .fro p ∧ ρ1[i]? = some (some (.fro p))) := fun i l h => backE_get h
  have froFp : ∀ i p, ρ[i]? = some (some (.fro p)) → fp i = [] := fun i p e => by
    obtain ⟨_, _, rl, _⟩ := h1 i _ e
    exact rl.2
  refine ⟨s.le, s.f0, s.keep, s.fo, by rw [backE_len, s.len, wipe_length], fun i => if i ∉ vs ∧ ∃ l, ρ[i]? = some (some l) ∧ (backE ρ1 ρ vs)[i]? = some (some l) then fp i else [], fun i l e => ?_, fun i j l m hij e e' a ha hb => ?_⟩
  · rcases key i l e with ⟨hi, e2⟩ | ⟨p, rfl, e2⟩
    · dsimp only
      rw [if_pos ⟨hi, l, e2, e⟩]
      obtain ⟨w, hw, rl, nd, q⟩ := h1 i l e2
      exact ⟨w, by rw [← wipe_at σ vs i hi]; exact hw, rl, nd, q⟩
    · obtain ⟨w, hw, rw'⟩ := hr i p e2
      have e0 : (if i ∉ vs ∧ ∃ l, ρ[i]? = some (some l) ∧ (backE ρ1 ρ vs)[i]? = some (some l) then fp i else []) = [] := by
        split
        · rename_i hc
          obtain ⟨_, l, c1, c2⟩ := hc
          rw [e] at c2
          cases c2
          exact froFp i p c1
        · rfl
      dsimp only
      rw [e0]
      exact ⟨w, hw, ⟨rw', rfl⟩, List.nodup_nil, fun a h => absurd h (by simp)⟩
  · dsimp only at ha hb
    split at ha
    · rename_i c
      split at hb
      · rename_i c'
        obtain ⟨_, l1, g1, _⟩ := c
        obtain ⟨_, l2, g2, _⟩ := c'
        exact h2 i j l1 l2 hij g1 g2 a ha hb
      · cases hb
    · cases ha
end

/-! ### comprehensions -/
abbrev W0 : WX := fun _ _ _ _ => False
def tTs (C : Cb) (Φ : Nat → List LV → CR) (W : WX) (c : List Tst) : TT := fun σ H Q => ∃ ρ F, SR C F ρ σ H ∧ Post C W σ F (evTs Φ c ρ) fun b _ _ H' => Q b H'
theorem _root_.L2.PTs.weak {X : Cx} {e : List Expr} {t t' : TT} (h : PTs X e t) (i : ∀ σ H Q, t' σ H Q → t σ H Q) : PTs X e t' := ⟨fun pins s σ H Q I q => h.run pins s σ H Q I (i _ _ _ q)⟩
theorem ts_nil {C : Cb} {Φ : Nat → List LV → CR} {W : WX} {X : Cx} : PTs X [] (tTs C Φ W []) := pts_nil.weak fun σ H Q q => by
  obtain ⟨ρ, F, s, q⟩ := q
  unfold evTs at q
  exact q F H (Same.refl F) s
/-- J yields xs wherever the state stands -/
def ItemsC (C : Cb) (F : Hp) (J : It) (xs : List PV) : Prop := ∀ i F' ρ σ H, Same F F' → SR C F' ρ σ H → (∀ p, xs[i]? = some p → J.go i H) ∧ (xs.length ≤ i → J.stop i H) ∧ ∀ x H' p, xs[i]? = some p → J.yld i H x H' →
  (H' = H ∧ Rep C.K F' p x) ∨ (∃ a ys l, H a = none ∧ x = .ref a ∧ H' = upd H a (.tup ys) ∧ p = .tup l ∧ Reps C.K F' l ys) ∨ ∃ a ys l, H' = H ∧ x = .ref a ∧ H a = some (.tup ys) ∧ p = .tup l ∧ Reps C.K F' l ys
/-- readings of a block: of any frame -/
def bE (K : PySem.W.Frag) (Φ : Nat → List LV → CR) (e : Ex) : TE := fun σ H Q => ∃ C : Cb, C.K = K ∧ tE C Φ W0 e σ H Q
def bTs (K : PySem.W.Frag) (Φ : Nat → List LV → CR) (e : List Tst) : TT := fun σ H Q => ∃ C : Cb, C.K = K ∧ tTs C Φ W0 e σ H Q
def bG (K : PySem.W.Frag) (t : Tg) : TG := fun v σ H Q => ∃ C : Cb, C.K = K ∧ tG C t v σ H Q
section
variable {C : Cb} {Φ : Nat → List LV → CR} {W : WX} {X : Cx}
theorem XO.blk (o : XO X C) {C' : Cb} (h : C'.K = C.K) {s : Shared} {H : Hp} {scope : Scope} {env : PySem.Env} {fp : List Addr} : XO (X.blk s H scope env fp) C' := ⟨h.trans o.K, o.nd, o.un⟩
theorem XC.blk (o : XC X C) {C' : Cb} (h : C'.K = C.K) {s : Shared} {H : Hp} {scope : Scope} {env : PySem.Env} {fp : List Addr} : XC (X.blk s H scope env fp) C' := ⟨⟨h.trans o.K, o.nd, o.un⟩, o.calm⟩
theorem takes0 {X : Cx} : Takes X W0 := fun u s' h => by
  obtain ⟨_, _, _, _, _, _, _, _, _, _, _, _, _, _, _, _, h⟩ := h
  exact h.elim
theorem bE.to {e : Expr} {ir : Ex} {K : PySem.W.Frag} (h : ∀ C' : Cb, C'.K = K → PE X e (tE C' Φ W0 ir)) : PE X e (bE K Φ ir) := ⟨fun pins s σ H Q I ⟨C', hC, q⟩ => (h C' hC).run pins s σ H Q I q⟩
theorem bTs.to {e : List Expr} {ir : List Tst} {K : PySem.W.Frag} (h : ∀ C' : Cb, C'.K = K → PTs X e (tTs C' Φ W0 ir)) : PTs X e (bTs K Φ ir) := ⟨fun pins s σ H Q I ⟨C', hC, q⟩ => (h C' hC).run pins s σ H Q I q⟩
theorem bG.to {e : Expr} {t : Tg} {K : PySem.W.Frag} (h : ∀ C' : Cb, C'.K = K → PG X e (tG C' t)) : PG X e (bG K t) := ⟨fun pins s σ H v u Q I r ⟨C', hC, q⟩ => (h C' hC).run pins s σ H v u Q I r q⟩
/-- one turn's end -/
def compF (Φ : Nat → List LV → CR) (t : Tg) (vs : List Nat) (c : List Tst) (e : Ex) : PV → Env → ER (Option PV) := fun x ρ2 => match t.bind x ρ2 with
        | some ρ3 => (evTs Φ c ρ3).bind fun b ρ4 => if b = true then (evE Φ e ρ4).bind fun y ρ5 => .ok (some y) (wipeE ρ5 vs) else .ok none (wipeE ρ4 vs)
        | none => .st
theorem Items.mono {K : PySem.W.Frag} {F F' : Hp} {J : It} {xs : List PV} (h : Items K F J xs) (e : Same F F') : Items K F' J xs := fun i H e' => by
  obtain ⟨h1, h2, h3⟩ := h i H (e.trans e')
  refine ⟨h1, h2, fun x H' p hp y => ?_⟩
  rcases h3 x H' p hp y with ⟨q1, q2⟩ | ⟨a, ys, l, q1, q2, q3, q4, q5⟩
  · exact .inl ⟨q1, Rep.mono e q2⟩
  · exact .inr ⟨a, ys, l, q1, q2, q3, q4, q5.mono e⟩
/-- an item has come -/
theorem SR.item {F H H' : Hp} {ρ : Env} {σ : L2.St} {x : V} {p : PV} (s : SR C F ρ σ H) (h : (H' = H ∧ Rep C.K F p x) ∨ (∃ a ys l, H a = none ∧ x = .ref a ∧ H' = upd H a (.tup ys) ∧ p = .tup l ∧ Reps C.K F l ys) ∨ ∃ a ys l, H' = H ∧ x = .ref a ∧ H a = some (.tup ys) ∧ p = .tup l ∧ Reps C.K F l ys) : ∃ F', Same F F' ∧ SR C F' ρ σ H' ∧ Rep C.K F' p x := by
  rcases h with ⟨rfl, r⟩ | ⟨a, ys, l, n, rfl, rfl, rfl, r⟩ | ⟨a, ys, l, rfl, rfl, hb, rfl, r⟩
  rotate_left 2
  · obtain ⟨F', e, s', hF⟩ := s.freezeT hb
    exact ⟨F', e, s', a, ys, rfl, hF, r.mono e⟩
  · exact ⟨F, Same.refl F, s, r⟩
  · have e : Same F (upd F a (.tup ys)) := same_updF (s.fnone n)
    exact ⟨_, e, s.alloc n _, a, ys, rfl, upd_same, r.mono e⟩
theorem drop_cons {α : Type} {l : List α} {i : Nat} (h : i < l.length) : ∃ x, l[i]? = some x ∧ l.drop i = x :: l.drop (i + 1) := ⟨l[i], by simp [h], List.drop_eq_getElem_cons h⟩
theorem comp_core {t : Tg} {vs : List Nat} {ic : List Tst} {ie : Ex} (hv : ∀ i ∈ t.ix, i ∈ vs) {σ : L2.St} {Q : VK} {xs : List PV} {ρ1 : Env} {F1 H1 : Hp} (s1 : SR C F1 ρ1 σ H1) (k1 : PostL C W σ F1 ((if xs.length ≤ LIM then (compL (compF Φ t vs ic ie) xs (wipeE ρ1 vs)).bind fun ys ρ6 => ER.ok (.lst ys) (backE ρ1 ρ6 vs) else .st).bind fun p ρ1 => .ok (.own p) ρ1) fun _ _ _ H' v => Q v H') {J : It} (hJ : ItemsC C F1 J xs) {D : Addr} (hD : H1 D = none) :
    ∃ W : Nat → Nat → Hp → Prop, (∃ m, W 0 m (upd H1 D (.lst []))) ∧ ∀ i m H, W i m H →
      (J.stop i H ∧ Q (.ref D) H) ∨ (J.go i H ∧ ∃ Nx : Hp → Prop, (∀ H', Nx H' → ∃ m', m' < m ∧ W (i + 1) m' H') ∧ ∀ x H', J.yld i H x H' → bG C.K t x (wipe σ vs) H' fun σ2 H2 => wipe σ2 vs = wipe σ vs ∧ bTs C.K Φ ic σ2 H2 fun b H3 =>
        if b = true then bE C.K Φ ie σ2 H3 fun y H4 => ∃ acc, H4 D = some (.lst acc) ∧ acc.length < sizeLine ∧ Nx (upd H4 D (.lst (acc ++ [y]))) else Nx H3) := by
  by_cases hlim : xs.length ≤ LIM
  case neg => rw [if_neg hlim] at k1; exact False.elim k1
  rw [if_pos hlim, ER.bind_assoc] at k1
  have hline := lim_line hlim
  let Inv' : Nat → Hp → Prop := fun i H => i ≤ xs.length ∧ ∃ ρ F acc, acc.length ≤ i ∧ Same F1 F ∧ SR C F (some (.own (.lst acc)) :: ρ) (some (.ref D) :: wipe σ vs) H ∧ match compL (compF Φ t vs ic ie) (xs.drop i) ρ with
    | .ok ys ρ6 => ∀ F' H', Same F F' → SR C F' (some (.own (.lst (acc ++ ys))) :: ρ6) (some (.ref D) :: wipe σ vs) H' → Q (.ref D) H'
    | _ => False
  refine ⟨fun i m H => m = xs.length - i ∧ Inv' i H, ⟨xs.length, by simp, Nat.zero_le _, wipeE ρ1 vs, F1, [], Nat.le_refl _, Same.refl F1, ?_, ?_⟩, ?_⟩
  · have s2 := s1.pushNew hD (p := .lst []) (o := .lst []) ⟨[], upd_same, .nil⟩
    obtain ⟨A, s3, ex⟩ := s2.enter
    exact ex _ _ _ _ (s3.wipes vs)
  · rw [List.drop_zero]
    cases hc : compL (compF Φ t vs ic ie) xs (wipeE ρ1 vs) with
    | ok ys ρ6 =>
      rw [hc] at k1
      intro F' H' e' s'
      refine k1 F' H' (.ref D) e' ?_
      rw [List.nil_append] at s'
      obtain ⟨A, s3, ex⟩ := s'.enter
      refine ex _ _ _ _ (SR.backs (vs := vs) s3 fun i p hp => ?_)
      obtain ⟨w, hw, rw'⟩ := s1.fro hp
      exact ⟨w, hw, Rep.mono e' rw'⟩
    | ex c ρ6 =>
      rw [hc] at k1
      exact absurd hc (by
        intro hc
        have : ∀ (l : List PV) (ρ : Env) (c : Str) (ρ' : Env), compL (compF Φ t vs ic ie) l ρ ≠ .ex c ρ' := by
          intro l
          induction l with
          | nil => intro ρ c ρ' h; cases h
          | cons x l ih =>
            intro ρ c ρ' h
            unfold compL at h
            split at h
            · split at h <;> cases h
            · exact ih _ _ _ h
            · cases h
        exact this _ _ _ _ hc)
    | st =>
      rw [hc] at k1
      exact k1
  · rintro i m H2 ⟨rfl, hi, ρ2, F2, acc, hacc, e2, s2, k2⟩
    obtain ⟨J1, J2, J3⟩ := hJ i F2 _ _ H2 e2 s2
    by_cases hlt : i < xs.length
    · obtain ⟨p, hp, hd⟩ := drop_cons hlt
      rw [hd] at k2
      refine .inr ⟨J1 p hp, fun H' => Inv' (i + 1) H', fun H' h => ⟨xs.length - (i + 1), by omega, rfl, h⟩, fun x H3 hy => ?_⟩
      have it := J3 x H3 p hp hy
      obtain ⟨F3, e3, s3, r3⟩ := s2.item it
      obtain ⟨A, s4, ex⟩ := s3.enter
      unfold compL at k2
      have fin : ∀ (acc' : List PV) ρ5 F5 σ5 H5, acc'.length ≤ i + 1 → Same F3 F5 → Only vs (wipe σ vs) σ5 → SR C F5 (some (.own (.lst acc')) :: ρ5) (some (.ref D) :: σ5) H5 → (match compL (compF Φ t vs ic ie) (xs.drop (i + 1)) (wipeE ρ5 vs) with
          | .ok ys ρ6 => ∀ F' H', Same F5 F' → SR C F' (some (.own (.lst (acc' ++ ys))) :: ρ6) (some (.ref D) :: wipe σ vs) H' → Q (.ref D) H'
          | _ => False) → Inv' (i + 1) H5 := fun acc' ρ5 F5 σ5 H5 hl e5 o5 s5 k5 => by
        refine ⟨hlt, wipeE ρ5 vs, F5, acc', hl, (e2.trans e3).trans e5, ?_, k5⟩
        obtain ⟨A5, s6, ex6⟩ := s5.enter
        have e6 : wipe σ5 vs = wipe σ vs := by
          rw [wipe_eq o5, wipe_eq (wipe_only σ vs)]
        have s7 := s6.wipes vs
        rw [e6] at s7
        exact ex6 _ _ _ _ s7
      have kk : ∃ ρ3, t.bind p ρ2 = some ρ3 ∧ Post (⟨C.K, H3, F3, A⟩ : Cb) W0 (wipe σ vs) F3 (ER.ok () ρ3) (fun _ _ _ _ => True) := by
        cases hb : t.bind p ρ2 with
        | none =>
          have : compF Φ t vs ic ie p ρ2 = .st := by unfold compF; rw [hb]
          rw [this] at k2
          exact False.elim k2
        | some ρ3 => exact ⟨ρ3, rfl, fun _ _ _ _ => trivial⟩
      obtain ⟨ρ3, hb, _⟩ := kk
      have hf : compF Φ t vs ic ie p ρ2 = (evTs Φ ic ρ3).bind fun b ρ4 => if b = true then (evE Φ ie ρ4).bind fun y ρ5 => .ok (some y) (wipeE ρ5 vs) else .ok none (wipeE ρ4 vs) := by
        unfold compF
        rw [hb]
      rw [hf] at k2
      refine ⟨⟨C.K, H3, F3, A⟩, rfl, ρ2, F3, p, ρ3, s4, r3, hb, fun σ5 H5 o5 s5 => ?_⟩
      have ov : Only vs (wipe σ vs) σ5 := ⟨o5.1, fun j hj => o5.2 j fun z => hj (hv j z)⟩
      refine ⟨by rw [wipe_eq ov, wipe_eq (wipe_only σ vs)]; , ⟨C.K, H3, F3, A⟩, rfl, ρ3, F3, s5, ?_⟩
      cases hT : evTs Φ ic ρ3 with
      | st => rw [hT] at k2; exact False.elim k2
      | ex c ρ4 => rw [hT] at k2; exact False.elim k2
      | ok b ρ4 =>
        rw [hT] at k2
        intro F5 H5 e5 s6
        cases b with
        | false =>
          rw [if_neg Bool.false_ne_true]
          have k2 : (match compL (compF Φ t vs ic ie) (xs.drop (i + 1)) (wipeE ρ4 vs) with
            | .ok ys ρ6 => ∀ F' H', Same F2 F' → SR C F' (some (.own (.lst (acc ++ ys))) :: ρ6) (some (.ref D) :: wipe σ vs) H' → Q (.ref D) H'
            | _ => False) := k2
          refine fin acc ρ4 F5 σ5 H5 (by omega) e5 ov (ex _ _ _ _ s6) ?_
          cases hc : compL (compF Φ t vs ic ie) (xs.drop (i + 1)) (wipeE ρ4 vs) with
          | ok ys ρ6 =>
            rw [hc] at k2
            exact fun F' H' e' s' => k2 F' H' ((e3.trans e5).trans e') s'
          | ex c ρ6 => rw [hc] at k2; exact k2
          | st => rw [hc] at k2; exact k2
        | true =>
          rw [if_pos rfl]
          refine ⟨⟨C.K, H3, F3, A⟩, rfl, ρ4, F5, s6, ?_⟩
          have k2 : (match (match (evE Φ ie ρ4).bind fun y ρ5 => ER.ok (some y) (wipeE ρ5 vs) with
              | .ok (some y) ρ1 => (match compL (compF Φ t vs ic ie) (xs.drop (i + 1)) ρ1 with
                | .ok ys ρ2 => ER.ok (y :: ys) ρ2
                | _ => ER.st)
              | .ok none ρ1 => compL (compF Φ t vs ic ie) (xs.drop (i + 1)) ρ1
              | _ => ER.st) with
            | .ok ys ρ6 => ∀ F' H', Same F2 F' → SR C F' (some (.own (.lst (acc ++ ys))) :: ρ6) (some (.ref D) :: wipe σ vs) H' → Q (.ref D) H'
            | _ => False) := k2
          cases hE : evE Φ ie ρ4 with
          | st => rw [hE] at k2; exact False.elim k2
          | ex c ρ5 => rw [hE] at k2; exact False.elim k2
          | ok y ρ5 =>
            rw [hE] at k2
            intro F6 H6 e6 s7 v rv
            have s8 := ex _ _ _ _ s7
            obtain ⟨a, ha, own, _⟩ := s8.ownAt (i := 0) (p := .lst acc) rfl
            have ha : D = a := by simpa using ha
            subst ha
            obtain ⟨accV, hA, rA⟩ := own
            refine ⟨accV, hA, by rw [← rA.length]; omega, ?_⟩
            have ow : OwnAt C.K F6 (upd H6 D (.lst (accV ++ [v]))) D (.lst (acc ++ [y])) := ⟨accV ++ [v], upd_same, rA.append (.cons rv .nil)⟩
            have s9 := s8.write (i := 0) (p := .lst acc) rfl rfl ow
            refine fin (acc ++ [y]) ρ5 F6 σ5 _ (by simp; omega) (e5.trans e6) ov s9 ?_
            have k2 : (match (match compL (compF Φ t vs ic ie) (xs.drop (i + 1)) (wipeE ρ5 vs) with
                | .ok ys ρ2 => ER.ok (y :: ys) ρ2
                | _ => ER.st) with
              | .ok ys ρ6 => ∀ F' H', Same F2 F' → SR C F' (some (.own (.lst (acc ++ ys))) :: ρ6) (some (.ref D) :: wipe σ vs) H' → Q (.ref D) H'
              | _ => False) := k2
            cases hc : compL (compF Φ t vs ic ie) (xs.drop (i + 1)) (wipeE ρ5 vs) with
            | ok ys ρ6 =>
              rw [hc] at k2
              intro F' H' e' s'
              rw [List.append_assoc] at s'
              exact k2 F' H' (((e3.trans e5).trans e6).trans e') s'
            | ex c ρ6 => rw [hc] at k2; exact k2
            | st => rw [hc] at k2; exact k2
    · have e : i = xs.length := by omega
      subst e
      rw [List.drop_eq_nil_of_le (Nat.le_refl _)] at k2
      refine .inl ⟨J2 (Nat.le_refl _), ?_⟩
      have k2 : ∀ F' H', Same F2 F' → SR C F' (some (.own (.lst (acc ++ []))) :: ρ2) (some (.ref D) :: wipe σ vs) H' → Q (.ref D) H' := k2
      rw [List.append_nil] at k2
      exact k2 F2 H2 (Same.refl F2) s2
theorem Items.toC {F : Hp} {J : It} {xs : List PV} (hJ : Items C.K F J xs) : ItemsC C F J xs := fun i F' ρ σ H e s => by
  obtain ⟨a, b, c⟩ := (hJ.mono e) i H s.le
  exact ⟨a, b, fun x H' p hp y => (c x H' p hp y).imp id .inl⟩
theorem comp_lc {is : Src} {t : Tg} {vs : List Nat} {ic : List Tst} {ie : Ex} (hv : ∀ i ∈ t.ix, i ∈ vs) {σ : L2.St} {H : Hp} {Q : VK} (q : tL' C Φ W (.comp is t vs ic ie) σ H Q) : tLc (tSrc C Φ W is) (bG C.K t) (bTs C.K Φ ic) (bE C.K Φ ie) vs σ H Q := by
  obtain ⟨ρ, F, s, q⟩ := q
  have q : PostL C W σ F ((evE Φ (.comp is t vs ic ie) ρ).bind fun p ρ1 => .ok (.own p) ρ1) fun _ _ _ H' v => Q v H' := q
  unfold evE at q
  rw [ER.bind_assoc] at q
  refine ⟨ρ, F, s, q.bindV.imp fun xs ρ1 F1 H1 e1 s1 k1 J hJ D hD => comp_core hv s1 k1 hJ.toC hD⟩
theorem l_comp {elt tg iter : Expr} {ifs : List Expr} {scope : Scope} {own : List (Str × Nat)} {pos : Pos} {is : Src} {t : Tg} {ic : List Tst} {ie : Ex} (o : XC X C) (hi : PI X tg iter (tSrc C Φ W is)) (ok : BlkOk X.N X.env.scope scope own) (hv : ∀ i ∈ t.ix, i ∈ own.map (·.2))
    (hg : ∀ (C' : Cb) (hC : C'.K = C.K) (s : Shared) (H : Hp) (D : Addr) (cl : List (Str × Addr)) (fp : List Addr), PG (X.blk s H scope (compEnvC scope cl D X.env) fp) tg (tG C' t))
    (ht : ∀ (C' : Cb) (hC : C'.K = C.K) (s : Shared) (H : Hp) (D : Addr) (cl : List (Str × Addr)) (fp : List Addr), PTs (X.blk s H scope (compEnvC scope cl D X.env) fp) ifs (tTs C' Φ W0 ic))
    (he : ∀ (C' : Cb) (hC : C'.K = C.K) (s : Shared) (H : Hp) (D : Addr) (cl : List (Str × Addr)) (fp : List Addr), PE (X.blk s H scope (compEnvC scope cl D X.env) fp) elt (tE C' Φ W0 ie)) (hs : ∀ x, foldedSetIterable iter X.env x = pure x := by intro _; rfl) :
    PE X (.ListComp elt [⟨tg, iter, ifs, 0⟩] scope pos) (tL' C Φ W (.comp is t (own.map (·.2)) ic ie)) :=
  (pe_lc o.calm o.nd hi ok (fun s H D cl fp => bG.to fun C' hC => hg C' hC s H D cl fp) (fun s H D cl fp => bTs.to fun C' hC => ht C' hC s H D cl fp) (fun s H D cl fp => bE.to fun C' hC => he C' hC s H D cl fp) hs).weak fun _ _ _ q => comp_lc hv q
theorem e_comp {e : Expr} {is : Src} {t : Tg} {vs : List Nat} {ic : List Tst} {ie : Ex} (h : PE X e (tL' C Φ W (.comp is t vs ic ie))) : PE X e (tE C Φ W (.comp is t vs ic ie)) := e_ofL h fun ρ => by
  show evE Φ (.comp is t vs ic ie) ρ = ER.bind ((evE Φ (.comp is t vs ic ie) ρ).bind fun p ρ1 => ER.ok (LV.own p) ρ1) (fun l ρ => ER.of l.pv ρ)
  rw [ER.bind_assoc]
  cases evE Φ (.comp is t vs ic ie) ρ <;> rfl
end
end Br
set_option maxHeartbeats 1000000
/-! BrE5: statements. -/
namespace Br
open PySem PySem.Spec PyProof.Rows L2

/-- these slots are as they were -/
def Kp (pr : List Nat) (σ σ' : L2.St) : Prop := ∀ i ∈ pr, σ'[i]? = σ[i]?
theorem Kp.refl {pr : List Nat} {σ : L2.St} : Kp pr σ σ := fun _ _ => rfl
theorem Kp.trans {pr : List Nat} {σ σ' σ'' : L2.St} (a : Kp pr σ σ') (b : Kp pr σ' σ'') : Kp pr σ σ'' := fun i hi => (b i hi).trans (a i hi)
theorem Kp.only {pr ix : List Nat} {σ σ' : L2.St} (h : Only ix σ σ') (d : ∀ i ∈ ix, i ∉ pr) : Kp pr σ σ' := fun i hi => h.2 i fun z => d i z hi
theorem Kp.set {pr : List Nat} {σ : L2.St} {i : Nat} {x : Option V} (d : i ∉ pr) : Kp pr σ (σ.set i x) := Kp.only Only.set fun j hj => by simp at hj; subst hj; exact d

def SPost (C : Cb) (W : WX) (pr : List Nat) (D : Ends) (σ : L2.St) (F : Hp) (r : SO) : Prop := match r with
  | .nx ρ => ∀ F' σ' H', Same F F' → Kp pr σ σ' → SR C F' ρ σ' H' → D.nx σ' H'
  | .bk ρ => ∀ F' σ' H', Same F F' → Kp pr σ σ' → SR C F' ρ σ' H' → D.bk σ' H'
  | .ct ρ => ∀ F' σ' H', Same F F' → Kp pr σ σ' → SR C F' ρ σ' H' → D.ct σ' H'
  | .rt l ρ => ∀ F' σ' H' v, Same F F' → Kp pr σ σ' → SR C F' (some l :: ρ) (some v :: σ') H' → D.rt v H'
  | .ex c ρ => ∀ F' σ' H', Same F F' → Kp pr σ σ' → SR C F' ρ σ' H' → W (.ref (He.ga C.K c)) none σ' H'
  | .st => False
section
variable {C : Cb} {W : WX} {pr : List Nat} {D : Ends} {σ σ1 : L2.St} {F F1 H : Hp} {ρ : Env} {α : Type}
theorem SPost.mono {r : SO} (h : SPost C W pr D σ F r) (e : Same F F1) (k : Kp pr σ σ1) : SPost C W pr D σ1 F1 r := by
  cases r with
  | nx ρ => exact fun F' σ' H' e' k' s => h F' σ' H' (e.trans e') (k.trans k') s
  | bk ρ => exact fun F' σ' H' e' k' s => h F' σ' H' (e.trans e') (k.trans k') s
  | ct ρ => exact fun F' σ' H' e' k' s => h F' σ' H' (e.trans e') (k.trans k') s
  | rt l ρ => exact fun F' σ' H' v e' k' s => h F' σ' H' v (e.trans e') (k.trans k') s
  | ex c ρ => exact fun F' σ' H' e' k' s => h F' σ' H' (e.trans e') (k.trans k') s
  | st => exact h
theorem SPost.so {r : ER α} {f : α → Env → SO} (h : SPost C W pr D σ F (r.so f)) : Post C W σ F r fun a ρ1 F1 _ => SPost C W pr D σ F1 (f a ρ1) := by
  cases r with
  | ok a ρ => exact fun F' H' e' s => SPost.mono h e' Kp.refl
  | ex c ρ => exact fun F' H' e' s => h F' σ H' e' Kp.refl s
  | st => exact h
theorem SPost.soL {r : ER LV} {f : LV → Env → SO} (h : SPost C W pr D σ F (r.so f)) : PostL C W σ F r fun l ρ1 F1 _ _ => SPost C W pr D σ F1 (f l ρ1) := by
  cases r with
  | ok a ρ => exact fun F' H' v e' s => SPost.mono h e' Kp.refl
  | ex c ρ => exact fun F' H' e' s => h F' σ H' e' Kp.refl s
  | st => exact h
theorem SPost.of {o : Option Env} (h : SPost C W pr D σ F (SO.of o)) : ∃ ρ, o = some ρ ∧ SPost C W pr D σ F (.nx ρ) := by
  cases o with
  | none => exact False.elim h
  | some ρ => exact ⟨ρ, rfl, h⟩
/-- the value of a slot on top -/
theorem SR.lift (s : SR C F ρ σ H) {i : Nat} {l : LV} (h : ρ[i]? = some (some l)) : ∃ v, σ[i]? = some (some v) ∧ SR C F (some l :: ρ.set i none) (some v :: σ) H := by
  obtain ⟨fp, h1, h2⟩ := s.own
  obtain ⟨v, hv, rl, nd, q⟩ := h1 i l h
  refine ⟨v, hv, s.le, s.f0, s.keep, s.fo, by simpa using s.len, fun n => match n with
    | 0 => fp i
    | j + 1 => fp j, fun n m e => ?_, fun n n' m m' hnn e e' => ?_⟩
  · cases n with
    | zero => cases (show some (some l) = some (some m) from e); exact ⟨v, rfl, rl, nd, q⟩
    | succ j =>
      rcases set_get (show (ρ.set i none)[j]? = some (some m) by simpa using e) with ⟨_, z, _⟩ | ⟨_, e2⟩
      · cases z
      · obtain ⟨w, hw, r⟩ := h1 j m e2
        exact ⟨w, by simpa using hw, r⟩
  · have tail : ∀ {j : Nat} {m : LV}, (some l :: ρ.set i none)[j + 1]? = some (some m) → j ≠ i ∧ ρ[j]? = some (some m) := fun {j m} e => by
      rcases set_get (show (ρ.set i none)[j]? = some (some m) by simpa using e) with ⟨_, z, _⟩ | ⟨z, e2⟩
      · cases z
      · exact ⟨fun w => z (by first | exact w | exact w.symm), e2⟩
    cases n with
    | zero =>
      cases n' with
      | zero => exact absurd rfl hnn
      | succ j =>
        obtain ⟨z, e2⟩ := tail e'
        exact h2 i j l m' (Ne.symm z) h e2
    | succ i' =>
      cases n' with
      | zero =>
        obtain ⟨z, e2⟩ := tail e
        exact h2 i' i m l z e2 h
      | succ j =>
        obtain ⟨z, e2⟩ := tail e
        obtain ⟨z', e2'⟩ := tail e'
        exact h2 i' j m m' (by omega) e2 e2'
end

section
variable (C : Cb) (Φ : Nat → List LV → CR) (W : WX) (pr : List Nat) (n : Nat)
def tS (st : St) : TS := fun D σ H => ∃ ρ F, SR C F ρ σ H ∧ SPost C W pr D σ F (exS Φ n st ρ)
def tSs (st : List St) : TS := fun D σ H => ∃ ρ F, SR C F ρ σ H ∧ SPost C W pr D σ F (exSs Φ n st ρ)
end

section
variable {C : Cb} {Φ : Nat → List LV → CR} {W : WX} {pr : List Nat} {n : Nat} {X : Cx} {a b c e tg iter : Expr} {es : List Expr} {pos pos' p : Pos} {x y : Str} {st : Stmt} {rest : List Stmt}
theorem ss_nil : PSs X [] (tSs C Φ W pr n []) := pss_nil.weak fun D σ H q => by
  obtain ⟨ρ, F, s, q⟩ := q
  unfold exSs at q
  exact q F σ H (Same.refl F) Kp.refl s
theorem ss_cons {i : St} {is : List St} (h1 : PS X st (tS C Φ W pr n i)) (h2 : PSs X rest (tSs C Φ W pr n is)) : PSs X (st :: rest) (tSs C Φ W pr n (i :: is)) := (pss_cons h1 h2).weak fun D σ H q => by
  obtain ⟨ρ, F, s, q⟩ := q
  unfold exSs at q
  refine ⟨ρ, F, s, ?_⟩
  cases hr : exS Φ n i ρ with
  | nx ρ1 =>
    rw [hr] at q
    have q : SPost C W pr D σ F (exSs Φ n is ρ1) := q
    exact fun F' σ' H' e' k' s' => ⟨ρ1, F', s', q.mono e' k'⟩
  | bk ρ1 => rw [hr] at q; exact q
  | ct ρ1 => rw [hr] at q; exact q
  | rt l ρ1 => rw [hr] at q; exact q
  | ex c ρ1 => rw [hr] at q; exact q
  | st => rw [hr] at q; exact q
theorem st_ex {ir : Ex} (he : PE X e (tE C Φ W ir)) (hs : swapsWith e none pos.line X.env = pure false := by rfl) : PS X (.Expr e pos) (tS C Φ W pr n (.ex ir)) := (ps_expr he hs).weak fun D σ H q => by
  obtain ⟨ρ, F, s, q⟩ := q
  unfold exS at q
  exact ⟨ρ, F, s, q.so.imp fun a ρ1 F1 H1 e1 s1 k v _ => k F1 σ H1 (Same.refl F1) Kp.refl s1⟩
theorem st_ret {ir : Ex} (he : PE X e (tL' C Φ W ir)) : PS X (.Return (some e) pos) (tS C Φ W pr n (.ret ir)) := (ps_ret he).weak fun D σ H q => by
  obtain ⟨ρ, F, s, q⟩ := q
  unfold exS at q
  exact ⟨ρ, F, s, q.soL.imp fun l ρ1 F1 H1 v e1 s1 k => k F1 σ H1 v (Same.refl F1) Kp.refl s1⟩
theorem st_retV {i : Nat} (hN : X.N[i]? = some x) (hv : Vis X.env.scope x) (hd : (x == ("__debug__" : Str)) = false := by decide) (hcd : (x == ("__classdict__" : Str)) = false := by decide) : PS X (.Return (some (.Name x p)) pos) (tS C Φ W pr n (.retV i)) :=
  (ps_ret (pe_var hN hv hd hcd)).weak fun D σ H q => by
    obtain ⟨ρ, F, s, q⟩ := q
    unfold exS at q
    unfold at' at q
    split at q
    · rename_i l hl
      split at hl
      · rename_i l' e
        cases hl
        obtain ⟨v, hv, s'⟩ := s.lift e
        exact ⟨v, hv, q F σ H v (Same.refl F) Kp.refl s'⟩
      · cases hl
    · exact False.elim q
theorem st_set {i : Nat} {ir : Ex} (o : XO X C) (hi : X.N[i]? = some x) (hx : Loc X.env.scope x) (hp : i ∉ pr) (he : PE X e (tL' C Φ W ir)) (hs : swapsWith e (some (.Name x pos')) pos.line X.env = pure false := by rfl) (hf : X.fn x = true ∨ X.env.scope.names.lookup x = some .local := by first | exact .inl rfl | exact .inr rfl | assumption) :
    PS X (.Assign [.Name x pos'] e pos) (tS C Φ W pr n (.set i ir)) := (ps_set o.nd hi hx he hs hf).weak fun D σ H q => by
  obtain ⟨ρ, F, s, q⟩ := q
  unfold exS at q
  exact ⟨ρ, F, s, q.soL.imp fun l ρ1 F1 H1 v e1 s1 k => k F1 _ H1 (Same.refl F1) (Kp.set hp) (s1.put i)⟩
/-- a, b = e, f -/
theorem st_par {i j : Nat} {ia ib : Ex} {px py pt : Pos} {kt k2 pt2} (o : XC X C) (hi : X.N[i]? = some x) (hj : X.N[j]? = some y) (hij : i ≠ j)
    (hx : X.env.scope.names.lookup x = some .local) (hy : X.env.scope.names.lookup y = some .local) (hpi : i ∉ pr) (hpj : j ∉ pr) (ha : PA X [a, b] (tEs C Φ W [ia, ib]))
    (hw : swappedStores [.Tuple [.Name x px, .Name y py] kt pt] (.Tuple [a, b] k2 pt2) X.env = pure (some [x, y]))
    (hs : swapsWithSole [.Tuple [.Name x px, .Name y py] kt pt] (.Tuple [a, b] k2 pt2) pos.line X.env = pure false := by rfl) :
    PS X (.Assign [.Tuple [.Name x px, .Name y py] kt pt] (.Tuple [a, b] k2 pt2) pos) (tS C Φ W pr n (.par [i, j] [ia, ib])) := (ps_par o.calm o.nd hi hj hij hx hy ha hw hs).weak fun D σ H q => by
  obtain ⟨ρ, F, s, q⟩ := q
  unfold exS at q
  refine ⟨ρ, F, s, q.so.imp fun ps ρ1 F1 H1 e1 s1 k vs r => ?_⟩
  obtain ⟨ρ2, hb, k⟩ := k.of
  unfold parE at hb
  split at hb
  · rename_i i' j' p q ρ' heq
    cases heq
    cases hb
    obtain ⟨v, vs, rfl, r1, w, vs', rfl, r2, r3⟩ := r
    cases r3
    refine ⟨v, w, rfl, k F1 _ H1 (Same.refl F1) ((Kp.set hpi).trans (Kp.set hpj)) ((s1.setFro r1 i).setFro r2 j)⟩
  · cases hb
theorem st_if {it : Tst} {ia ib : List St} {sa sb : List Stmt} (hc : PT X c (tT C Φ W it)) (ha : PSs X sa (tSs C Φ W pr n ia)) (hb : PSs X sb (tSs C Φ W pr n ib)) : PS X (.If c sa sb pos) (tS C Φ W pr n (.ite it ia ib)) := (ps_if hc ha hb).weak fun D σ H q => by
  obtain ⟨ρ, F, s, q⟩ := q
  unfold exS at q
  refine ⟨ρ, F, s, q.so.imp fun t ρ1 F1 H1 e1 s1 k => ?_⟩
  cases t with
  | true => exact ⟨ρ1, F1, s1, k⟩
  | false => exact ⟨ρ1, F1, s1, k⟩
theorem st_whl {it : Tst} {ib : List St} {sb : List Stmt} (hp : PassesOwn (model X.prog X.w) X.A X.env X.xe) (hc : PT X c (tT C Φ W it)) (hb : PSs X sb (tSs C Φ W pr n ib)) : PS X (.While c sb [] pos) (tS C Φ W pr n (.whl it ib)) := (ps_while hp hc hb).weak fun D σ H q => by
  obtain ⟨ρ, F, s, q⟩ := q
  unfold exS at q
  refine ⟨fun m σ' H' => Kp pr σ σ' ∧ ∃ ρ' F', SR C F' ρ' σ' H' ∧ SPost C W pr D σ' F' (whlL (evT Φ it) (exSs Φ n ib) m ρ'), ⟨n, Kp.refl, ρ, F, s, q⟩, ?_⟩
  rintro m σ1 H1 ⟨kp1, ρ1, F1, s1, q1⟩
  cases m with
  | zero => exact False.elim q1
  | succ m =>
    unfold whlL at q1
    refine ⟨ρ1, F1, s1, ?_⟩
    cases hT : evT Φ it ρ1 with
    | st => rw [hT] at q1; exact q1
    | ex c ρ2 =>
      rw [hT] at q1
      exact fun F' H' e' s' => q1 F' σ1 H' e' Kp.refl s'
    | ok t ρ2 =>
      rw [hT] at q1
      intro F2 H2 e2 s2
      cases t with
      | false =>
        rw [if_neg Bool.false_ne_true]
        exact q1 F2 σ1 H2 e2 Kp.refl s2
      | true =>
        rw [if_pos rfl]
        have q1 : SPost C W pr D σ1 F1 (match exSs Φ n ib ρ2 with
          | .nx ρ2 => whlL (evT Φ it) (exSs Φ n ib) m ρ2
          | .ct ρ2 => whlL (evT Φ it) (exSs Φ n ib) m ρ2
          | .bk ρ2 => .nx ρ2
          | .rt l ρ2 => .rt l ρ2
          | .ex c ρ2 => .ex c ρ2
          | .st => .st) := q1
        refine ⟨fun σ' H' => Kp pr σ σ' ∧ ∃ ρ' F', SR C F' ρ' σ' H' ∧ SPost C W pr D σ' F' (whlL (evT Φ it) (exSs Φ n ib) m ρ'), fun σ' H' h => ⟨m, Nat.lt_succ_self m, h⟩, ρ2, F2, s2, ?_⟩
        cases hB : exSs Φ n ib ρ2 with
        | nx ρ3 =>
          rw [hB] at q1
          exact fun F' σ' H' e' k' s' => ⟨kp1.trans k', ρ3, F', s', SPost.mono q1 (e2.trans e') k'⟩
        | ct ρ3 =>
          rw [hB] at q1
          exact fun F' σ' H' e' k' s' => ⟨kp1.trans k', ρ3, F', s', SPost.mono q1 (e2.trans e') k'⟩
        | bk ρ3 =>
          rw [hB] at q1
          exact fun F' σ' H' e' k' s' => q1 F' σ' H' (e2.trans e') k' s'
        | rt l ρ3 =>
          rw [hB] at q1
          exact fun F' σ' H' v e' k' s' => q1 F' σ' H' v (e2.trans e') k' s'
        | ex c ρ3 =>
          rw [hB] at q1
          exact fun F' σ' H' e' k' s' => q1 F' σ' H' (e2.trans e') k' s'
        | st => rw [hB] at q1; exact q1
theorem st_for {is : Src} {t : Tg} {ib : List St} {sb : List Stmt} (o : XC X C) (hp : PassesOwn (model X.prog X.w) X.A X.env X.xe) (hi : PI X tg iter (tSrc C Φ W is)) (hg : PG X tg (tG C t)) (hd : ∀ i ∈ t.ix, i ∉ pr) (hb : PSs X sb (tSs C Φ W pr n ib))
    (hl : ∀ ρ, exS Φ n (.for is t ib) ρ = (evSrc Φ is ρ).so fun xs ρ1 => forL (bindS (exSs Φ n ib) t) xs ρ1 := by intro _; rfl)
    (hs : ∀ x, foldedSetIterable iter X.env x = pure x := by intro _; rfl) : PS X (.For tg iter sb [] pos) (tS C Φ W pr n (.for is t ib)) := (ps_for hp o.calm hi hg hb hs).weak fun D σ H q => by
  obtain ⟨ρ, F, s, q⟩ := q
  rw [hl] at q
  refine ⟨ρ, F, s, q.so.imp fun xs ρ1 F1 H1 e1 s1 k1 J hJ => ?_⟩
  generalize hf : bindS (exSs Φ n ib) t = f at k1
  let Inv' : Nat → L2.St → Hp → Prop := fun i σ' H' => i ≤ xs.length ∧ Kp pr σ σ' ∧ ∃ ρ' F', Same F1 F' ∧ SR C F' ρ' σ' H' ∧ SPost C W pr D σ' F' (forL f (xs.drop i) ρ')
  refine ⟨fun i m σ' H' => m = xs.length - i ∧ Inv' i σ' H', ⟨xs.length, by simp, Nat.zero_le _, Kp.refl, ρ1, F1, Same.refl F1, s1, by rw [List.drop_zero]; exact k1⟩, ?_⟩
  rintro i m σ2 H2 ⟨rfl, hle, kp2, ρ2, F2, e2, s2, k2⟩
  obtain ⟨J1, J2, J3⟩ := hJ i H2 (e2.trans s2.le)
  by_cases hlt : i < xs.length
  · obtain ⟨p, hp, hdr⟩ := drop_cons hlt
    rw [hdr] at k2
    refine .inr ⟨J1 p hp, Inv' (i + 1), fun σ' H' h => ⟨xs.length - (i + 1), by omega, rfl, h⟩, fun x H3 hy => ?_⟩
    have it : (H3 = H2 ∧ Rep C.K F2 p x) ∨ ∃ a ys l, H2 a = none ∧ x = .ref a ∧ H3 = upd H2 a (.tup ys) ∧ p = .tup l ∧ Reps C.K F2 l ys := by
      rcases J3 x H3 p hp hy with ⟨q1, q2⟩ | ⟨a, ys, l, q1, q2, q3, q4, q5⟩
      · exact .inl ⟨q1, Rep.mono e2 q2⟩
      · exact .inr ⟨a, ys, l, q1, q2, q3, q4, q5.mono e2⟩
    obtain ⟨F3, e3, s3, r3⟩ := s2.item (it.imp id .inl)
    unfold forL at k2
    cases hbd : t.bind p ρ2 with
    | none =>
      have e0 : f p ρ2 = .st := by rw [← hf]; unfold bindS; rw [hbd]
      rw [e0] at k2
      exact False.elim k2
    | some ρ3 =>
      have e0 : f p ρ2 = exSs Φ n ib ρ3 := by rw [← hf]; unfold bindS; rw [hbd]
      rw [e0] at k2
      refine ⟨ρ2, F3, p, ρ3, s3, r3, hbd, fun σ4 H4 o4 s4 => ⟨ρ3, F3, s4, ?_⟩⟩
      have kp4 : Kp pr σ2 σ4 := Kp.only o4 hd
      cases hB : exSs Φ n ib ρ3 with
      | nx ρ5 =>
        rw [hB] at k2
        exact fun F' σ' H' e' k' s' => ⟨hlt, (kp2.trans kp4).trans k', ρ5, F', (e2.trans e3).trans e', s', SPost.mono k2 (e3.trans e') (kp4.trans k')⟩
      | ct ρ5 =>
        rw [hB] at k2
        exact fun F' σ' H' e' k' s' => ⟨hlt, (kp2.trans kp4).trans k', ρ5, F', (e2.trans e3).trans e', s', SPost.mono k2 (e3.trans e') (kp4.trans k')⟩
      | bk ρ5 =>
        rw [hB] at k2
        exact fun F' σ' H' e' k' s' => k2 F' σ' H' (e3.trans e') (kp4.trans k') s'
      | rt l ρ5 =>
        rw [hB] at k2
        exact fun F' σ' H' v e' k' s' => k2 F' σ' H' v (e3.trans e') (kp4.trans k') s'
      | ex c ρ5 =>
        rw [hB] at k2
        exact fun F' σ' H' e' k' s' => k2 F' σ' H' (e3.trans e') (kp4.trans k') s'
      | st => rw [hB] at k2; exact k2
  · have e : i = xs.length := by omega
    subst e
    rw [List.drop_eq_nil_of_le (Nat.le_refl _)] at k2
    exact .inl ⟨J2 (Nat.le_refl _), k2 F2 σ2 H2 (Same.refl F2) Kp.refl s2⟩
/-! ### x[k] = v -/
/-! the key that is put, and what lies at it -/
/-! ### x.append(e), x.extend(e) -/
theorem ownL_at {ρ : Env} {i : Nat} (h : ownL ρ i = true) : ∃ l, ρ[i]? = some (some (.own (.lst l))) := by
  unfold ownL at'  at h
  split at h
  · rename_i l e
    split at e
    · rename_i l' e'
      cases e
      exact ⟨l, e'⟩
    · cases e
  · cases h
theorem st_app {i : Nat} {ir : Ex} {apos cpos p : Pos} (hN : X.N[i]? = some x) (hv : Vis X.env.scope x) (he : PE X e (tE C Φ W ir))
    (hbase : attributeBase (.Name x p) "append" X.env (eval (.Name x p) X.env) = eval (.Name x p) X.env := by rfl)
    (hfew : ((backTo cpos (starEach [e] X.env)).all (fun x => !x.1) && (backToKw cpos (keywordEach [] X.env)).all (fun x => x.1.isSome)
      && decide (([e] : List Expr).length + ([] : List Keyword).length + (if ([] : List Keyword).isEmpty then 0 else 1) < 30)) = true := by rfl)
    (hline : (apos.endLine == cpos.line) = true := by rfl) (hst : starEach [e] X.env = (false, eval e X.env) :: starEach [] X.env := by rfl)
    (hd : (x == ("__debug__" : Str)) = false := by decide) (hcd : (x == ("__classdict__" : Str)) = false := by decide)
    (hs : swapsWith (.Call (.Attribute (.Name x p) "append" apos) [e] [] cpos) none pos.line X.env = pure false := by rfl) :
    PS X (.Expr (.Call (.Attribute (.Name x p) "append" apos) [e] [] cpos) pos) (tS C Φ W pr n (.app i ir)) :=
  (ps_expr (pe_bm PySem.F.plainAttrs_list PySem.F.slot_list_append PySem.F.type_list_append mt_append (pe_var hN hv hd hcd) (pa_cons he pa_nil hst) hbase hfew hline hst rfl) hs).weak fun D σ H q => by
    obtain ⟨ρ, F, s, q⟩ := q
    unfold exS at q
    by_cases ho : ownL ρ i = true
    case neg => rw [if_neg ho] at q; exact False.elim q
    rw [if_pos ho] at q
    obtain ⟨l0, hl0⟩ := ownL_at ho
    obtain ⟨a, ha, ⟨xs0, hH0, _⟩, _⟩ := s.ownAt hl0
    refine ⟨.ref a, ha, .inl ⟨rfl, xs0, .inl (.inl hH0)⟩, ρ, F, s, q.so.imp fun p ρ1 F1 H1 e1 s1 k1 v r => ?_⟩
    split at k1
    · rename_i l hl
      split at k1
      · rename_i hlim
        unfold at' at hl
        split at hl
        · rename_i l' hl'
          cases hl
          obtain ⟨a', ha', ⟨xs, hH, rr⟩, _⟩ := s1.ownAt hl'
          rw [ha] at ha'
          cases ha'
          exact ⟨a, xs, v, rfl, rfl, hH, by rw [← rr.length]; exact Nat.lt_of_lt_of_le hlim (lim_line (Nat.le_refl _)), k1 F1 σ _ (Same.refl F1) Kp.refl (s1.write hl' ha ⟨xs ++ [v], upd_same, rr.append (.cons r .nil)⟩)⟩
        · cases hl
      · exact False.elim k1
    · exact False.elim k1
/-! ### raise -/
theorem st_raise {c m : Str} {bmB : List Value} {B newId initId : String} {j : Nat} {p2 cpos : Pos} (o : XC X C) (tk : Takes X W) (Fx : ExcBaseFacts B newId initId bmB) (q : PySem.W.excIn X.K (He.ga X.K c) bmB newId = true) (gC : X.mg c = some (.ref (He.ga X.K c))) (kC : PySem.W.keepIn X.K (.ref (He.ga X.K c)) = true) (r : Raises X (.ref (He.ga X.K c))) (hg : Gl X c)
    (hdb : (c == ("__debug__" : Str)) = false := by decide) : PS X (.Raise (some (.Call (.Name c p) [.Constant (.str m) j p2] [] cpos)) none pos) (tS C Φ W pr n (.raise c)) :=
  (ps_raise o.calm tk (pmk_own Fx q gC kC r hg hdb)).weak fun D σ H q => by
    obtain ⟨ρ, F, s, q⟩ := q
    unfold exS at q
    have := q F σ H (Same.refl F) Kp.refl s
    rw [o.K] at this
    exact this
end
end Br
set_option maxHeartbeats 1000000
/-! BrE6: defs; the law's end. -/
namespace Br
open PySem PySem.Spec PyProof.Rows L2

section
variable {C : Cb} {F H : Hp} {ρ ρ2 : Env} {σ σ2 : L2.St}
theorem SR.sub (s : SR C F ρ σ H) (hl : ρ2.length = σ2.length) (h : ∀ (i : Nat) (l : LV), ρ2[i]? = some (some l) → ρ[i]? = some (some l) ∧ σ2[i]? = σ[i]?) : SR C F ρ2 σ2 H := by
  obtain ⟨fp, h1, h2⟩ := s.own
  refine ⟨s.le, s.f0, s.keep, s.fo, hl, fp, fun i l e => ?_, fun i j l m hij e e' => h2 i j l m hij (h i l e).1 (h j m e').1⟩
  obtain ⟨q1, q2⟩ := h i l e
  obtain ⟨v, hv, r⟩ := h1 i l q1
  exact ⟨v, q2.trans hv, r⟩
theorem SR.pad (s : SR C F ρ σ H) (n : Nat) : SR C F (ρ ++ List.replicate n none) (σ ++ List.replicate n none) H := by
  obtain ⟨fp, h1, h2⟩ := s.own
  have key : ∀ (i : Nat) (l : LV), (ρ ++ List.replicate n none)[i]? = some (some l) → ρ[i]? = some (some l) := fun i l e => by
    by_cases hi : i < ρ.length
    · rw [List.getElem?_append_left hi] at e; exact e
    · rw [List.getElem?_append_right (by omega), List.getElem?_replicate] at e
      split at e <;> cases e
  refine ⟨s.le, s.f0, s.keep, s.fo, by simp [s.len], fp, fun i l e => ?_, fun i j l m hij e e' => h2 i j l m hij (key i l e) (key j m e')⟩
  obtain ⟨v, hv, r⟩ := h1 i l (key i l e)
  refine ⟨v, ?_, r⟩
  rw [List.getElem?_append_left (by rw [← s.len]; exact (List.getElem?_eq_some_iff.mp (key i l e)).1)]
  exact hv
theorem lvsOf_ok : ∀ {n : Nat} {ρ : Env} {as : List LV}, lvsOf ρ n = some as → as.length = n ∧ ∀ (i : Nat) (l : LV), as[i]? = some l → ρ[i]? = some (some l)
  | 0, ρ, as, h => by
    have h : some [] = some as := by cases ρ <;> exact h
    cases h
    exact ⟨rfl, fun i l e => by simp at e⟩
  | n + 1, [], as, h => by cases h
  | n + 1, none :: ρ, as, h => by cases h
  | n + 1, some l0 :: ρ, as, h => by
    obtain ⟨as', h1, rfl⟩ := Option.map_eq_some_iff.mp (show (lvsOf ρ n).map (l0 :: ·) = some as from h)
    obtain ⟨q1, q2⟩ := lvsOf_ok h1
    refine ⟨by simp [q1], fun i l e => ?_⟩
    cases i with
    | zero => simpa using e
    | succ i => simpa using q2 i l (by simpa using e)
theorem ioOk_at {io : List Nat} : ∀ {ls : List LV} {k i : Nat} {l : LV}, ioOk io k ls = true → ls[i]? = some l → l.isFro = false → k + i ∈ io
  | [], k, i, l, _, e, _ => by simp at e
  | .fro p :: ls, k, i, l, h, e, f => by
    cases i with
    | zero => simp at e; subst e; cases f
    | succ i =>
      have := ioOk_at (k := k + 1) (i := i) (show ioOk io (k + 1) ls = true from h) (by simpa using e) f
      rwa [Nat.add_assoc, Nat.add_comm 1 i] at this
  | .own p :: ls, k, i, l, h, e, f => by
    have h : (decide (k ∈ io) && ioOk io (k + 1) ls) = true := h
    rw [Bool.and_eq_true, decide_eq_true_eq] at h
    cases i with
    | zero => exact h.1
    | succ i =>
      have := ioOk_at (k := k + 1) (i := i) h.2 (by simpa using e) f
      rwa [Nat.add_assoc, Nat.add_comm 1 i] at this
  | .ins a b c :: ls, k, i, l, h, e, f => by
    have h : (decide (k ∈ io) && ioOk io (k + 1) ls) = true := h
    rw [Bool.and_eq_true, decide_eq_true_eq] at h
    cases i with
    | zero => exact h.1
    | succ i =>
      have := ioOk_at (k := k + 1) (i := i) h.2 (by simpa using e) f
      rwa [Nat.add_assoc, Nat.add_comm 1 i] at this
end

/-- what a body may use -/
structure BX (X : Cx) (C : Cb) (W : WX) (k : Nat) : Prop where
  o : XC X C
  tk : Takes X W
  po : PassesOwn (model X.prog X.w) X.A X.env X.xe
  room : Room k X.A
section
variable {P : Program} {w : World} {K : PySem.W.Frag} {mg : Str → Option Value} {base : Heap} {x qual : Str} {params : Arguments} {body : List Stmt} {scope : Scope} {f : Addr} {fd : FuncData} {N ps : List Str} {k n : Nat} {Φ : Nat → List LV → CR}
theorem runFn_ok {fn : Fn} {ls : List LV} (h : runFn Φ n fn ls ≠ .st) : ls.length = fn.np ∧ fn.np ≤ fn.nn ∧ ioOk fn.io 0 ls = true := by
  unfold runFn at h
  by_cases hc : ls.length = fn.np ∧ fn.np ≤ fn.nn ∧ ioOk fn.io 0 ls = true
  · exact hc
  · rw [if_neg hc] at h
    exact absurd rfl h
/-- out of a body -/
theorem SR.leave {C : Cb} {F' H' : Hp} {ρ : Env} {σ σ' : L2.St} {ls as : List LV} {vs : List V} {io : List Nat} {np : Nat} {r : LV} {v : V} (s : SR C F' (some r :: ρ) (some v :: σ') H') (hvs : vs.length = ls.length) (hio : ioOk io 0 ls = true) (hnp : ls.length = np) (has : lvsOf ρ np = some as)
    (kp : Kp io (vs.map some ++ σ) σ') : as.length = ls.length ∧ SR C F' (some r :: maskL ls as) (some v :: vs.map some) H' := by
  obtain ⟨q1, q2⟩ := lvsOf_ok has
  have hal : as.length = ls.length := by omega
  refine ⟨hal, s.sub (by simp [maskL_len hal, hvs]) fun i l e => ?_⟩
  cases i with
  | zero => exact ⟨e, rfl⟩
  | succ i =>
    have e : (maskL ls as)[i]? = some (some l) := by simpa using e
    obtain ⟨l0, l1, e1, e2, e3⟩ := maskL_get e
    have hf : l0.isFro = false := by
      cases h : l0.isFro with
      | false => rfl
      | true => rw [h] at e3; cases e3
    rw [hf, if_neg Bool.false_ne_true] at e3
    cases e3
    refine ⟨by simpa using q2 i l e2, ?_⟩
    have hi := ioOk_at hio e1 hf
    rw [Nat.zero_add] at hi
    have := kp i hi
    have hlt : i < vs.length := by rw [hvs]; exact (List.getElem?_eq_some_iff.mp e1).1
    rw [List.getElem?_append_left (by simpa using hlt)] at this
    simpa using this.symm
/-- THE RULE for a def -/
theorem def_ok (fn : Fn) {dvs : List V} {kws : List (Str × V)} (F : FunD K x qual params body scope dvs kws f fd) (S : FnScope N ps scope) (hN : fn.nn = N.length) (hp : fn.np = ps.length)
    (hb : ∀ (cdv : Value) (A : Around) (outer : List PySem.Env) (s : Shared) (H : Hp) (E : XK) (C : Cb),
      BX (cxOf (L2.CX P w) P w K mg base N qual scope f cdv A outer s H E) C (fun cls d _ H => E cls d H) k →
      PSs (cxOf (L2.CX P w) P w K mg base N qual scope f cdv A outer s H E) body (tSs C Φ (fun cls d _ H => E cls d H) fn.io n fn.body)) :
    FnOk P w K mg base (L2.CX P w) (k + 1) f fd ps (spOf K (runFn Φ n fn)) := by
  have hns : ∀ {vs H Q E}, spOf K (runFn Φ n fn) vs H Q E → ∃ F ls fp, SR ⟨K, H, F, fp⟩ F (ls.map some) (vs.map some) H ∧ (vs.length = ls.length ∧ ls.length = fn.np ∧ fn.np ≤ fn.nn ∧ ioOk fn.io 0 ls = true) ∧ (match runFn Φ n fn ls with
      | .ok r ls' => ∀ v H' F', SR ⟨K, H, F, fp⟩ F' (some r :: maskL ls ls') (some v :: vs.map some) H' → Q v H'
      | .ex c ls' => ∀ H' F', SR ⟨K, H, F, fp⟩ F' (maskL ls ls') (vs.map some) H' → E (.ref (He.ga K c)) none H'
      | .st => False) := fun {vs H Q E} h => by
    obtain ⟨F0, ls, fp, sr, h⟩ := h
    have h1 := sr.len
    rw [List.length_map, List.length_map] at h1
    refine ⟨F0, ls, fp, sr, ⟨h1.symm, runFn_ok (Φ := Φ) (n := n) fun z => ?_⟩, h⟩
    rw [z] at h
    exact h
  refine F.ok S (fun vs H Q E h => ?_) (fun cdv A outer s H vs Q E hr h => ?_)
  · obtain ⟨_, ls, _, _, ⟨h1, h2, _⟩, _⟩ := hns h
    omega
  · obtain ⟨F0, ls, fp, sr, hc, h⟩ := hns h
    refine ⟨tSs ⟨K, H, F0, fp⟩ Φ (fun cls d _ H => E cls d H) fn.io n fn.body, ?_, ?_⟩
    · refine hb cdv A outer s H E ⟨K, H, F0, fp⟩ ⟨⟨⟨rfl, S.nd, ?_⟩, rfl⟩, takes_of rfl rfl rfl rfl, PassesOwn.leaving, hr⟩
      have := hr.un
      show (A.deeper _).units + 131 < cLine
      omega
    · obtain ⟨hvs, hnp, hnn, hio⟩ := hc
      have e1 : frameOf fn ls = ls.map some ++ List.replicate (N.length - vs.length) none := by
        unfold frameOf
        rw [hN, hvs]
      unfold runFn at h
      rw [if_pos ⟨hnp, hnn, hio⟩, e1] at h
      refine ⟨ls.map some ++ List.replicate (N.length - vs.length) none, F0, sr.pad _, ?_⟩
      cases hr : exSs Φ n fn.body (ls.map some ++ List.replicate (N.length - vs.length) none) with
      | nx ρ =>
        rw [hr] at h
        dsimp only at h
        cases hl : lvsOf ρ fn.np with
        | none => rw [hl] at h; exact h.elim
        | some as =>
          rw [hl] at h
          intro F' σ' H' e' k' s'
          obtain ⟨q1, q2⟩ := SR.leave (s'.push (p := .non) (v := .non) rfl) hvs hio hnp hl k'
          exact h _ _ _ q2
      | rt r ρ =>
        rw [hr] at h
        dsimp only at h
        cases hl : lvsOf ρ fn.np with
        | none => rw [hl] at h; exact h.elim
        | some as =>
          rw [hl] at h
          intro F' σ' H' v e' k' s'
          obtain ⟨q1, q2⟩ := SR.leave s' hvs hio hnp hl k'
          exact h _ _ _ q2
      | ex c ρ =>
        rw [hr] at h
        dsimp only at h
        cases hl : lvsOf ρ fn.np with
        | none => rw [hl] at h; exact h.elim
        | some as =>
          rw [hl] at h
          intro F' σ' H' e' k' s'
          obtain ⟨q1, q2⟩ := SR.leave (s'.push (p := .non) (v := .non) rfl) hvs hio hnp hl k'
          exact h _ _ q2.pop
      | bk ρ => rw [hr] at h; exact h.elim
      | ct ρ => rw [hr] at h; exact h.elim
      | st => rw [hr] at h; exact h.elim
end

/-! ### the law -/
theorem reps_ints {K : PySem.W.Frag} {F : Hp} : ∀ (ns : List Int), Reps K F (ns.map PV.int) (ns.map V.int)
  | [] => rfl
  | n :: ns => .cons rfl (reps_ints ns)
end Br
set_option maxHeartbeats 1000000
/-! BrE7: the rules by their forms. -/
namespace Br
open PySem PySem.Spec PyProof.Rows L2

def visB (sc : Scope) (x : Str) : Bool := match sc.names.lookup x with
  | some .local => true
  | some .cell => true
  | some .free => true
  | _ => false
theorem visBy {sc : Scope} {x : Str} (h : visB sc x = true) : Vis sc x := by
  unfold visB at h
  split at h
  · exact .inl (by assumption)
  · exact .inr (.inl (by assumption))
  · exact .inr (.inr (by assumption))
  · cases h
def locB (sc : Scope) (x : Str) : Bool := match sc.names.lookup x with
  | some .local => true
  | some .cell => true
  | _ => false
theorem locBy {sc : Scope} {x : Str} (h : locB sc x = true) : Loc sc x := by
  unfold locB at h
  split at h
  · exact .inl (by assumption)
  · exact .inr (by assumption)
  · cases h
section
variable {C : Cb} {Φ : Nat → List LV → CR} {W : WX} {X : Cx} {a b c e : Expr} {es : List Expr} {pos p : Pos} {x : Str} {ia ib ic : Arg}
theorem oc (o : XO X C) {f : Value → Value → Sem Value} {op : Op} (h : OpR X f (R2of X.K op)) : OpR X f (R2of C.K op) := by rw [o.K]; exact h
theorem cc (o : XO X C) {f : Value} {op : Op} (h : CallR X f (fun xs H Q => rOp X.K op xs H Q)) : CallR X f (fun xs H Q => rOp C.K op xs H Q) := by rw [o.K]; exact h
theorem b_add (o : XO X C) (ha : PE X a (tA1 C Φ W ia)) (hb : PE X b (tA1 C Φ W ib)) : PE X (.BinOp a .Add b pos) (tO C Φ W .add [ia, ib]) := o_bin (oc o or_add) ha hb
theorem b_sub (o : XO X C) (ha : PE X a (tA1 C Φ W ia)) (hb : PE X b (tA1 C Φ W ib)) : PE X (.BinOp a .Sub b pos) (tO C Φ W .sub [ia, ib]) := o_bin (oc o or_sub) ha hb
theorem b_mul (o : XO X C) (ha : PE X a (tA1 C Φ W ia)) (hb : PE X b (tA1 C Φ W ib)) : PE X (.BinOp a .Mult b pos) (tO C Φ W .mul [ia, ib]) := o_bin (oc o or_mul) ha hb
theorem b_fdiv (o : XO X C) (ha : PE X a (tA1 C Φ W ia)) (hb : PE X b (tA1 C Φ W ib)) : PE X (.BinOp a .FloorDiv b pos) (tO C Φ W .fdiv [ia, ib]) := o_bin (oc o or_fdiv) ha hb
theorem b_mod (o : XO X C) (ha : PE X a (tA1 C Φ W ia)) (hb : PE X b (tA1 C Φ W ib)) : PE X (.BinOp a .Mod b pos) (tO C Φ W .mod [ia, ib]) := o_bin (oc o or_mod) ha hb
theorem b_pow (o : XO X C) (ha : PE X a (tA1 C Φ W ia)) (hb : PE X b (tA1 C Φ W ib)) : PE X (.BinOp a .Pow b pos) (tO C Φ W .pow [ia, ib]) := o_bin (oc o or_pow) ha hb
theorem un64 (o : XO X C) : X.A.units + 64 < cLine := by have := o.un; omega
theorem c_eq (o : XO X C) (ha : PE X a (tA1 C Φ W ia)) (hb : PE X b (tA1 C Φ W ib)) : PE X (.Compare a [.Eq] [b] pos) (tO C Φ W .eq [ia, ib]) := o_cmp (oc o (or_eq (un64 o))) (nomark b) ha hb
theorem c_gt (o : XO X C) (ha : PE X a (tA1 C Φ W ia)) (hb : PE X b (tA1 C Φ W ib)) : PE X (.Compare a [.Gt] [b] pos) (tO C Φ W .gt [ia, ib]) := o_cmp (oc o or_gt) (nomark b) ha hb
/-! the same as tests -/
theorem x_eq (o : XO X C) (ha : PE X a (tA1 C Φ W ia)) (hb : PE X b (tA1 C Φ W ib)) : PT X (.Compare a [.Eq] [b] pos) (tT C Φ W (.e (.app .eq [ia, ib]))) := t_cmp (oc o (or_eq (un64 o))) (nomark b) ha hb
theorem x_ne (o : XO X C) (ha : PE X a (tA1 C Φ W ia)) (hb : PE X b (tA1 C Φ W ib)) : PT X (.Compare a [.NotEq] [b] pos) (tT C Φ W (.e (.app .ne [ia, ib]))) := t_cmp (oc o (or_ne (un64 o))) (nomark b) ha hb
theorem x_lt (o : XO X C) (ha : PE X a (tA1 C Φ W ia)) (hb : PE X b (tA1 C Φ W ib)) : PT X (.Compare a [.Lt] [b] pos) (tT C Φ W (.e (.app .lt [ia, ib]))) := t_cmp (oc o (or_lt o.un)) (nomark b) ha hb
theorem x_gt (o : XO X C) (ha : PE X a (tA1 C Φ W ia)) (hb : PE X b (tA1 C Φ W ib)) : PT X (.Compare a [.Gt] [b] pos) (tT C Φ W (.e (.app .gt [ia, ib]))) := t_cmp (oc o or_gt) (nomark b) ha hb
theorem x_ge (o : XO X C) (ha : PE X a (tA1 C Φ W ia)) (hb : PE X b (tA1 C Φ W ib)) : PT X (.Compare a [.GtE] [b] pos) (tT C Φ W (.e (.app .ge [ia, ib]))) := t_cmp (oc o (or_ge o.un)) (nomark b) ha hb
/-! builtins -/
theorem as1 (ha : PE X a (tA1 C Φ W ia)) (he : starEach [a] X.env = (false, eval a X.env) :: starEach [] X.env) : PA X [a] (tAs C Φ W [ia]) := as_cons ha as_nil he
theorem f_len (o : XO X C) (hg : Gl X "len") (hm : X.mg "len" = none) (ha : PE X a (tA1 C Φ W ia)) (he : starEach [a] X.env = (false, eval a X.env) :: starEach [] X.env := by rfl) : PE X (.Call (.Name "len" p) [a] [] pos) (tO C Φ W .len [ia]) := o_blt (cc o cr_len) hg hm boot_len (as1 ha he) (by decide) (by decide) he rfl
theorem f_abs (o : XO X C) (hg : Gl X "abs") (hm : X.mg "abs" = none) (ha : PE X a (tA1 C Φ W ia)) (he : starEach [a] X.env = (false, eval a X.env) :: starEach [] X.env := by rfl) : PE X (.Call (.Name "abs" p) [a] [] pos) (tO C Φ W .abs [ia]) := o_blt (cc o cr_abs) hg hm boot_abs (as1 ha he) (by decide) (by decide) he rfl
theorem f_int (o : XO X C) (hg : Gl X "int") (hm : X.mg "int" = none) (ha : PE X a (tA1 C Φ W ia)) (he : starEach [a] X.env = (false, eval a X.env) :: starEach [] X.env := by rfl) : PE X (.Call (.Name "int" p) [a] [] pos) (tO C Φ W .int1 [ia]) := o_ty (cc o cr_int1) hg hm PyProof.Rows.boot_int (as1 ha he) (by decide) (by decide) he rfl
end
end Br
set_option maxHeartbeats 1000000
/-! BrE8: a law's defs by names. -/
namespace Br
open PySem PySem.Spec PyProof.Rows L2

/-- a def that may be called by its name -/
def Ok (P : Program) (w : World) (K : PySem.W.Frag) (mg : Str → Option Value) (base : Heap) (k : Nat) (x : Str) (ps : List Str) (g : List LV → CR) : Prop :=
  ∃ fd, FnOk P w K mg base (L2.CX P w) k (He.ga K x) fd ps (spOf K g) ∧ PySem.W.keepIn K (.ref (He.ga K x)) = true ∧ Binds K fd ps [] ∧ mg x = some (.ref (He.ga K x))
/-- a def of the text, as it stands behind the top -/
def Dn (K : PySem.W.Frag) (mg : Str → Option Value) (x : Str) (st : Stmt) : Prop := (∃ fd, FunD K x x (defArgs st) (defBody st) (defScope st) [] [] (He.ga K x) fd) ∧ mg x = some (.ref (He.ga K x))
/-- an own exception class -/
def Xn (K : PySem.W.Frag) (mg : Str → Option Value) (x : Str) : Prop := PySem.W.excIn K (He.ga K x) He.veBase "ValueError.__new__" = true ∧ PySem.W.keepIn K (.ref (He.ga K x)) = true ∧ PySem.W.subIn K (.ref (He.ga K x)) (.type "BaseException") = some true ∧
    PySem.W.typeIn K (.ref (He.ga K x)) = some (.type "type") ∧ mg x = some (.ref (He.ga K x))
section
variable {P : Program} {w : World} {K : PySem.W.Frag} {mg : Str → Option Value} {base : Heap} {x : Str} {st : Stmt} {N ps : List Str} {k n : Nat} {Φ : Nat → List LV → CR}
theorem def_at (fn : Fn) (D : Dn K mg x st) (S : FnScope N ps (defScope st)) (hN : fn.nn = N.length) (hp : fn.np = ps.length)
    (hbind : ∀ (kV doc pm : Value) (an : Option Addr) (cdv ct : Value) (us : List Value), us.length = ps.length → bindArgs (PySem.W.fnOf x x (defArgs st) (defBody st) (defScope st) .none kV doc pm an cdv ct) ⟨us, []⟩ = pure (ps.zip us))
    (hb : ∀ (cdv : Value) (A : Around) (outer : List PySem.Env) (s : Shared) (H : Hp) (E : XK) (C : Cb),
      BX (cxOf (L2.CX P w) P w K mg base N x (defScope st) (He.ga K x) cdv A outer s H E) C (fun cls d _ H => E cls d H) k →
      PSs (cxOf (L2.CX P w) P w K mg base N x (defScope st) (He.ga K x) cdv A outer s H E) (defBody st) (tSs C Φ (fun cls d _ H => E cls d H) fn.io n fn.body)) :
    Ok P w K mg base (k + 1) x ps (runFn Φ n fn) := by
  obtain ⟨⟨fd, F⟩, hm⟩ := D
  exact ⟨fd, def_ok fn F S hN hp hb, F.kp, F.bindsN hbind, hm⟩
theorem Ok.up {j : Nat} {g : List LV → CR} (h : Ok P w K mg base j x ps g) (hjk : j ≤ k) : Ok P w K mg base k x ps g := by
  obtain ⟨fd, h1, h2⟩ := h
  exact ⟨fd, h1.mono hjk, h2⟩
end
/-- a def's promise at one around -/
structure FnAt (P : Program) (w : World) (K : PySem.W.Frag) (mg : Str → Option Value) (base : Heap) (CX : CXT) (A : Around) (f : Addr) (fd : FuncData) (ps : List Str) (sp : Sp) : Prop where
  len : ∀ vs H Q E, sp vs H Q E → vs.length = ps.length
  run : ∀ (outer : List PySem.Env) (s : Shared) (H : Hp) (args : Args) (us : List Value) (vs : List V) (Q : VK) (E : XK), Env0 P w K mg base A outer s H → BindsTo s fd args (ps.zip us) → Vals vs us → sp vs H Q E →
    codeAny (model P w) A (.call (.ref f) args) (L2.CR CX outer P w H s Q E) s
theorem fn_ofA {CX : CXT} {P : Program} {w : World} {K : PySem.W.Frag} {mg : Str → Option Value} {base : Heap} {k : Nat} {A : Around} {f : Addr} {name qual : Str} {params : Arguments} {body : List Stmt} {scope : Scope} {dV kV doc pm cdv ct oc : Value} {an od : Option Addr}
    {osl : Array (Option Value)} {N ps : List Str} {sp : Sp} (hr : Room (k + 1) A) (lk : K.lookup f = some ⟨oc, od, .func (PySem.W.fnOf name qual params body scope dV kV doc pm an cdv ct), osl⟩) (hcd : PySem.W.codeIn K cdv qual = true) (S : FnScope N ps scope)
    (len : ∀ vs H Q E, sp vs H Q E → vs.length = ps.length)
    (hbody : ∀ (outer : List PySem.Env) (s : Shared) (H : Hp) (vs : List V) (Q : VK) (E : XK), Room k (A.deeper (envOfC qual scope s.heap.objs.size f cdv)) → sp vs H Q E →
      ∃ t, PSs (cxOf CX P w K mg base N qual scope f cdv A outer s H E) body t ∧ t { nx := fun _ H' => Q .non H', rt := Q } (start N vs) H) :
    FnAt P w K mg base CX A f (PySem.W.fnOf name qual params body scope dV kV doc pm an cdv ct) ps sp := by
  refine ⟨len, fun outer s H args us vs Q E e0 hb r hsp => ?_⟩
  have hl := len _ _ _ _ hsp
  have KX : K.In s.heap := e0.mod.kin.keeps fun b o e => (e0.bs b o e).1
  have lim : s.heap.NoLimit := e0.mod.nolimit.keeps fun b o e => (e0.bs b o e).1
  have hkind : ∀ y ∈ ps.zip us, scope.names.lookup y.1 = some .local ∨ (scope.names.lookup y.1 = some .cell ∧ ((cellsFrom (s.heap.objs.size + 1) scope.names []).lookup y.1).isSome = true) := fun ⟨n, v⟩ hy => by
    rcases S.par n (List.of_mem_zip hy).1 with q | q
    · exact .inl q
    · exact .inr ⟨q, PySem.W.cellsFrom_some _ _ _ (.inl q)⟩
  refine codeAny_call_function hr.depth (KX _ _ lk) rfl S.co S.gen rfl (PySem.W.codeRec_of KX hcd) (hb _ _ _ _ ?_)
  refine wpAny_newFunctionEnv_cells S.kind hkind fun env he s1 x => ?_
  subst he
  refine ⟨lim.keeps x.toInCall.keep, codeAny_func ?_⟩
  obtain ⟨t, ht, hq⟩ := hbody outer s H vs Q E (hr.deeper _) hsp
  have I : Inv (cxOf CX P w K mg base N qual scope f cdv A outer s H E) [] (start N vs) H s1 := inv_start S hr.hd e0 hl r x
  refine wpAny_mono (ht.run [] s1 (start N vs) H _ I hq) (fun fl s' hs => ?_) fun e s' hs => hs
  have fin : ∀ {σ' : L2.St} {H' : Hp} {v : V} {u : Value}, Inv (cxOf CX P w K mg base N qual scope f cdv A outer s H E) [] σ' H' s' → RelV v u → Q v H' → CE outer P w H s Q u s' :=
    fun {σ' H' v u} J rv q => ⟨v, H', J.os, J.bare, J.base, J.hok, rv, q⟩
  cases fl with
  | ret u =>
    obtain ⟨v, σ', H', J, rv, q⟩ := hs
    exact fin J rv q
  | next =>
    obtain ⟨σ', H', J, q⟩ := hs
    exact fin (v := V.non) (u := Value.none) J rfl q
  | brk =>
    obtain ⟨_, _, _, q⟩ := hs
    exact False.elim q
  | cont =>
    obtain ⟨_, _, _, q⟩ := hs
    exact False.elim q
section
variable {P : Program} {w : World} {K : PySem.W.Frag} {mg : Str → Option Value} {base : Heap} {A : Around} {x : Str} {st : Stmt} {N ps : List Str} {k n : Nat} {Φ : Nat → List LV → CR}
theorem body_start0 {fn : Fn} {ls : List LV} {vs : List V} {H F0 : Hp} {fp : List Addr} {Q : VK} {E : XK} (hN : fn.nn = N.length) (hc : vs.length = ls.length ∧ ls.length = fn.np ∧ fn.np ≤ fn.nn ∧ ioOk fn.io 0 ls = true) (sr : SR ⟨K, H, F0, fp⟩ F0 (ls.map some) (vs.map some) H)
    (h : match runFn Φ n fn ls with
      | .ok r ls' => ∀ v H' F', SR ⟨K, H, F0, fp⟩ F' (some r :: maskL ls ls') (some v :: vs.map some) H' → Q v H'
      | .ex c ls' => ∀ H' F', SR ⟨K, H, F0, fp⟩ F' (maskL ls ls') (vs.map some) H' → E (.ref (He.ga K c)) none H'
      | .st => False) : tSs ⟨K, H, F0, fp⟩ Φ (fun cls d _ H => E cls d H) fn.io n fn.body { nx := fun _ H' => Q .non H', rt := Q } (L2.start N vs) H := by
  obtain ⟨hvs, hnp, hnn, hio⟩ := hc
  have e1 : frameOf fn ls = ls.map some ++ List.replicate (N.length - vs.length) none := by
    unfold frameOf
    rw [hN, hvs]
  unfold runFn at h
  rw [if_pos ⟨hnp, hnn, hio⟩, e1] at h
  refine ⟨ls.map some ++ List.replicate (N.length - vs.length) none, F0, sr.pad _, ?_⟩
  cases hr : exSs Φ n fn.body (ls.map some ++ List.replicate (N.length - vs.length) none) with
  | nx ρ =>
    rw [hr] at h
    dsimp only at h
    cases hl : lvsOf ρ fn.np with
    | none => rw [hl] at h; exact h.elim
    | some as =>
      rw [hl] at h
      intro F' σ' H' e' k' s'
      obtain ⟨q1, q2⟩ := SR.leave (s'.push (p := .non) (v := .non) rfl) hvs hio hnp hl k'
      exact h _ _ _ q2
  | rt r ρ =>
    rw [hr] at h
    dsimp only at h
    cases hl : lvsOf ρ fn.np with
    | none => rw [hl] at h; exact h.elim
    | some as =>
      rw [hl] at h
      intro F' σ' H' v e' k' s'
      obtain ⟨q1, q2⟩ := SR.leave s' hvs hio hnp hl k'
      exact h _ _ _ q2
  | ex c ρ =>
    rw [hr] at h
    dsimp only at h
    cases hl : lvsOf ρ fn.np with
    | none => rw [hl] at h; exact h.elim
    | some as =>
      rw [hl] at h
      intro F' σ' H' e' k' s'
      obtain ⟨q1, q2⟩ := SR.leave (s'.push (p := .non) (v := .non) rfl) hvs hio hnp hl k'
      exact h _ _ q2.pop
  | bk ρ => rw [hr] at h; exact h.elim
  | ct ρ => rw [hr] at h; exact h.elim
  | st => rw [hr] at h; exact h.elim
/-- a def that may be called at this around -/
def OkA (P : Program) (w : World) (K : PySem.W.Frag) (mg : Str → Option Value) (base : Heap) (A : Around) (x : Str) (ps : List Str) (g : List LV → CR) : Prop :=
  ∃ fd, FnAt P w K mg base (L2.CX P w) A (He.ga K x) fd ps (spOf K g) ∧ PySem.W.keepIn K (.ref (He.ga K x)) = true ∧ Binds K fd ps [] ∧ mg x = some (.ref (He.ga K x))
theorem def_atA (fn : Fn) (D : Dn K mg x st) (hr : Room (k + 1) A) (hg : A.guards = some []) (S : FnScope N ps (defScope st)) (hN : fn.nn = N.length) (hp : fn.np = ps.length)
    (hbind : ∀ (kV doc pm : Value) (an : Option Addr) (cdv ct : Value) (us : List Value), us.length = ps.length → bindArgs (PySem.W.fnOf x x (defArgs st) (defBody st) (defScope st) .none kV doc pm an cdv ct) ⟨us, []⟩ = pure (ps.zip us))
    (hb : ∀ (cdv : Value) (outer : List PySem.Env) (s : Shared) (H : Hp) (E : XK) (C : Cb),
      BX (cxOf (L2.CX P w) P w K mg base N x (defScope st) (He.ga K x) cdv A outer s H E) C (fun cls d _ H => E cls d H) k →
      (cxOf (L2.CX P w) P w K mg base N x (defScope st) (He.ga K x) cdv A outer s H E).A.guards = some [] →
      PSs (cxOf (L2.CX P w) P w K mg base N x (defScope st) (He.ga K x) cdv A outer s H E) (defBody st) (tSs C Φ (fun cls d _ H => E cls d H) fn.io n fn.body)) :
    OkA P w K mg base A x ps (runFn Φ n fn) := by
  obtain ⟨⟨fd, F⟩, hm⟩ := D
  refine ⟨fd, ?_, F.kp, F.bindsN hbind, hm⟩
  obtain ⟨oc, od, dV, kV, doc, pm, an, cdv, ct, osl, rfl, lk, hcd, _, _⟩ := F.ex
  have hns : ∀ {vs H Q E}, spOf K (runFn Φ n fn) vs H Q E → ∃ F ls fp, SR ⟨K, H, F, fp⟩ F (ls.map some) (vs.map some) H ∧ (vs.length = ls.length ∧ ls.length = fn.np ∧ fn.np ≤ fn.nn ∧ ioOk fn.io 0 ls = true) ∧ (match runFn Φ n fn ls with
      | .ok r ls' => ∀ v H' F', SR ⟨K, H, F, fp⟩ F' (some r :: maskL ls ls') (some v :: vs.map some) H' → Q v H'
      | .ex c ls' => ∀ H' F', SR ⟨K, H, F, fp⟩ F' (maskL ls ls') (vs.map some) H' → E (.ref (He.ga K c)) none H'
      | .st => False) := fun {vs H Q E} h => by
    obtain ⟨F0, ls, fp, sr, h⟩ := h
    have h1 := sr.len
    rw [List.length_map, List.length_map] at h1
    refine ⟨F0, ls, fp, sr, ⟨h1.symm, runFn_ok (Φ := Φ) (n := n) fun z => ?_⟩, h⟩
    rw [z] at h
    exact h
  refine fn_ofA hr lk hcd S (fun vs H Q E h => ?_) (fun outer s H vs Q E hr h => ?_)
  · obtain ⟨_, ls, _, _, ⟨h1, h2, _⟩, _⟩ := hns h
    omega
  · obtain ⟨F0, ls, fp, sr, hc, h⟩ := hns h
    refine ⟨tSs ⟨K, H, F0, fp⟩ Φ (fun cls d _ H => E cls d H) fn.io n fn.body, ?_, ?_⟩
    · refine hb cdv outer s H E ⟨K, H, F0, fp⟩ ⟨⟨⟨rfl, S.nd, ?_⟩, rfl⟩, takes_of rfl rfl rfl rfl, PassesOwn.leaving, hr⟩ hg
      have := hr.un
      show (A.deeper _).units + 131 < cLine
      omega
    · exact body_start0 hN hc sr h
end
section
variable {C : Cb} {Φ : Nat → List LV → CR} {W : WX} {X : Cx} {a b c e : Expr} {es : List Expr} {pos p : Pos} {x : Str} {k j : Nat} {ps : List Str} {irs : List Arg}
theorem l_fn (o : XO X C) (h : Ok X.prog X.w X.K X.mg X.base k x ps (Φ j)) (hr : Room k X.A) (hg : Gl X x) (tk : Takes X W) (ha : PA X (e :: es) (tAs C Φ W irs)) (hdb : (x == ("__debug__" : Str)) = false := by decide)
    (he : starEach (e :: es) X.env = (false, eval e X.env) :: starEach es X.env := by rfl) (hpl : (backTo pos (starEach es X.env)).any (·.1) = false := by rfl) : PE X (.Call (.Name x p) (e :: es) [] pos) (tL' C Φ W (.call j irs)) := by
  obtain ⟨fd, F, hk, hb, hm⟩ := h
  exact l_call o F hr hg hm hk hb tk ha hdb he hpl
theorem l_fn0 (o : XO X C) (h : Ok X.prog X.w X.K X.mg X.base k x ps (Φ j)) (hr : Room k X.A) (hg : Gl X x) (tk : Takes X W) (hdb : (x == ("__debug__" : Str)) = false := by decide) : PE X (.Call (.Name x p) [] [] pos) (tL' C Φ W (.call j [])) := by
  obtain ⟨fd, F, hk, hb, hm⟩ := h
  exact l_call0 o F hr hg hm hk hb tk hdb
theorem st_rais {m : Str} {pr : List Nat} {n j : Nat} {p2 cpos : Pos} (o : XC X C) (tk : Takes X W) (q : Xn X.K X.mg x) (hg : Gl X x) (hdb : (x == ("__debug__" : Str)) = false := by decide) : PS X (.Raise (some (.Call (.Name x p) [.Constant (.str m) j p2] [] cpos)) none pos) (tS C Φ W pr n (.raise x)) :=
  st_raise o tk PySem.F.excBase_ValueError q.1 q.2.2.2.2 q.2.1 (raises_own q.2.2.1 q.2.2.2.1) hg hdb
end
section
variable {fa : List He.Fa} {fn : List He.DefD} {K : PySem.W.Frag} {h : Heap} {mg : Str → Option Value}
theorem dn_of (X : K.In h) (G : h.Ns mainGlobals mg) (c : He.SaysD fa fn K) (i j : Nat) {x : Str} {st : Stmt} (hd : fn[i]? = some ⟨(x, none), x, x, defArgs st, defBody st, defScope st, [], []⟩) (hf : fa[j]? = some (.glo x)) : Dn K mg x st := by
  obtain ⟨fd, F⟩ := c.def_ i hd
  exact ⟨⟨fd, F⟩, He.glo_ok X G (c.fact j hf)⟩
theorem xn_of (X : K.In h) (G : h.Ns mainGlobals mg) (c : He.SaysD fa fn K) (i j : Nat) {x : Str} (hd : fa[i]? = some (.exc x)) (hf : fa[j]? = some (.glo x)) : Xn K mg x := by
  obtain ⟨h1, h2, h3, h4⟩ := He.exc_ok (c.fact i hd)
  exact ⟨h1, h2, h3, h4, He.glo_ok X G (c.fact j hf)⟩
theorem fr_of (X : K.In h) (G : h.Ns mainGlobals mg) (c : He.SaysD fa fn K) (j : Nat) {x : Str} (hf : fa[j]? = some (.free x)) : mg x = none := He.free_ok X G (c.fact j hf)
end
theorem law_callE {P : Program} {w : World} {K : PySem.W.Frag} {mg mb : Str → Option Value} {CX : CXT} {fa a : Addr} {x : Str} {sp : Sp} {s₁ : Shared} {vs : List Value} {ns : List Int}
    (KX : K.In s₁.heap) (hns : s₁.heap.Ns mainGlobals mg) (hb : s₁.heap.Ns builtinsNs mb) (hbb : ∀ x : Str, x ≠ "__name__" → mb x = bootBuiltins x) (hlim : s₁.heap.NoLimit) (hg : s₁.gens = #[])
    (ha : s₁.heap.get? a = some { cls := .type "list", data := .seq vs.toArray }) (hi : IntsAre vs ns) (hl : ns.length ≤ sizeLine)
    (F : ∀ base : Heap, K.In base → base.Ns mainGlobals mg → ∃ fd, FnAt P w K mg base CX callerA fa fd [x] sp ∧ Binds K fd [x] [])
    (hsp : ∀ H : Hp, L2.Only H → SqE K H a (ns.map V.int) → sp [.ref a] H (fun v _ => v = .bl true) fun _ _ _ => False)
    (hCX : ∀ H e s', CX [] H s₁ (fun _ _ _ => False) e s' → False) :
    codeAny (model P w) callerA (.call (.ref fa) ⟨[.ref a], []⟩) (fun r s' => r = .ok (.ret (.bool true)) ∧ OldK s₁.heap s'.heap ∧ s'.os = s₁.os ∧ AllBare s'.gens) s₁ := by
  have rv := vals_ints hi
  have lenV := hi.length
  have core : ∀ H : Hp, L2.Only H → SqE K H a (ns.map V.int) → HOk P w H s₁.heap → (∀ b, H b ≠ none → b = a) → (H a ≠ none → K.lookup a = none) →
      codeAny (model P w) callerA (.call (.ref fa) ⟨[.ref a], []⟩) (fun r s' => r = .ok (.ret (.bool true)) ∧ OldK s₁.heap s'.heap ∧ s'.os = s₁.os ∧ AllBare s'.gens) s₁ := by
    intro H hO hS hok hA hK
    have base_of : ∀ {b : Addr} {o : Obj}, s₁.heap.get? b = some o → H b = none → (hidT s₁.heap H).get? b = some o := fun e n => hidT_get e n
    have noA : ∀ {b : Addr} {o : Obj} {es : Array DictEntry} {ep : Nat}, s₁.heap.get? b = some o → o.data = .dict es ep → H b = none := fun {b o es ep} e d => by
      cases q : H b with
      | none => rfl
      | some u =>
        have e' : b = a := hA b (by rw [q]; simp)
        subst e'
        rw [ha] at e; cases e
        have d' : Data.seq vs.toArray _ = Data.dict es ep := d
        cases d'
    have nsK : ∀ {b : Addr} {m : Str → Option Value}, s₁.heap.Ns b m → (hidT s₁.heap H).Ns b m := fun {b m} ⟨o, es, ep, e, d, r⟩ => ⟨o, es, ep, base_of e (noA e d), d, r⟩
    have hKb : K.In (hidT s₁.heap H) := fun b o e => base_of (KX b o e) (by
      cases q : H b with
      | none => rfl
      | some u =>
        have e' : b = a := hA b (by rw [q]; simp)
        subst e'
        rw [hK (by rw [q]; simp)] at e; cases e)
    have hM : Mod K mg (hidT s₁.heap H) := ⟨hKb, nsK hns, ⟨mb, nsK hb, hbb⟩, let ⟨mc, h1, h2⟩ := hlim; ⟨mc, nsK h1, h2⟩⟩
    have e0 : Env0 P w K mg (hidT s₁.heap H) callerA [] s₁ H := ⟨rfl, hM, fun b o e => of_hidT e, Nat.le_of_eq (hidT_size _ _), trivial, fun b hb => absurd (show b ∈ ([] : List Addr) from hb) (by simp), hok, .of_eq hg⟩
    obtain ⟨fd, hF, hB⟩ := F _ hKb (nsK hns)
    refine codeAny_mono (hF.run [] s₁ H ⟨[.ref a], []⟩ [.ref a] [.ref a] _ _ e0 (hB s₁ [.ref a] KX rfl) (.cons rfl .nil) (hsp H hO hS)) fun r s' h => ?_
    cases r with
    | error e => exact (hCX H e s' h).elim
    | ok fl =>
      cases fl with
      | next => exact False.elim h
      | brk => exact False.elim h
      | cont => exact False.elim h
      | ret u =>
        obtain ⟨v, H', os, bare, un, hok', r', q⟩ := h
        have q' : v = .bl true := q
        subst q'
        obtain rfl : u = Value.bool true := r'
        refine ⟨rfl, OldK.of_keep fun b o e => ?_, os, bare⟩
        cases q : H b with
        | none => exact un.keep b o e q (by intro z; exact absurd (show b ∈ ([] : List Addr) from z) (by simp)) (by simp)
        | some u =>
          rcases hO b with z | ⟨ob, xs, z⟩
          · rw [q] at z; cases z
          · have z2 := un.frzs b ob _ z
            obtain ⟨e1, _⟩ := hok b _ z
            obtain ⟨e2, _⟩ := hok' b _ z2
            rw [e] at e1; cases e1
            exact e2
  cases hk : K.lookup a with
  | some o =>
    have e := KX a o hk
    rw [ha] at e
    cases e
    refine core (fun _ => none) (fun _ => .inl rfl) (.inr ⟨vs.toArray, _, hk, by rw [List.size_toArray, lenV]; exact hl, by simpa using rv⟩) (fun b u z => by have z' : (none : Option HO) = some u := z; cases z') (fun b z => absurd rfl z) fun z => absurd rfl z
  | none =>
    refine core (fun b => if b = a then some (.frz { cls := .type "list", data := .seq vs.toArray } (.lst (ns.map V.int))) else none) (fun b => ?_) (.inl (.inr ⟨{ cls := .type "list", data := .seq vs.toArray }, if_pos rfl⟩)) (fun b u z => ?_) (fun b z => ?_) fun _ => hk
    · by_cases hb : b = a
      · exact .inr ⟨_, _, if_pos hb⟩
      · exact .inl (if_neg hb)
    · by_cases hb : b = a
      · have z' := (if_pos hb).symm.trans z
        cases z'
        subst hb
        exact ⟨ha, by rw [List.length_map]; exact hl, vs, _, rv, ha⟩
      · have z' := (if_neg hb).symm.trans z
        cases z'
    · by_cases hb : b = a
      · exact hb
      · exact absurd (if_neg hb) z
/-- a law's end over a head by facts: g, what the law's def computes -/
theorem walk_P {l : PySem.W.OpenLaw} {n : Nat} {q : Program} {loose : List Str} {XP : (Str → Option Value) → Heap → Prop} {YP : World → Heap → Prop} {d : DefRec} {x : Str} {g : List LV → CR}
    (hn : l.most = some n) (hn2 : n ≤ sizeLine) (hdf : d.params.defaults = [])
    (pure_ : ∀ ns : List Int, ns.length ≤ n → ∃ ls', g [.fro (.lst (ns.map .int))] = .ok (.fro (.bl true)) ls')
    (F : ∀ (w : World) (mg : Str → Option Value) (h : Heap), YP w h → h.Ns mainGlobals mg →
      ∃ K : PySem.W.Frag, K.In h ∧ ∀ base : Heap, K.In base → base.Ns mainGlobals mg → OkA l.prog w K mg base callerA d.name [x] g) :
    PySem.W.WalkO q loose XP YP l.row.toRowW d [] (fun f vs => PySem.call f vs) := by
  refine Att.attach_call hn hdf fun w s₀ s₁ mg mb fa o pm cd doc a vs ns G Y ho hd hcd hmg hobj hints hlen hg => ?_
  obtain ⟨K, KX, hF⟩ := F w mg _ Y G.T.g
  refine law_callE (CX := L2.CX l.prog w) (sp := spOf K g) (x := x) KX G.T.g G.T.b G.T.builtins G.T.nolimit hg hobj hints (Nat.le_trans hlen hn2) (fun base hK hB => ?_) (fun H hO hS => ?_) fun H e s' h => ?_
  · obtain ⟨fd, h1, h2, h3, h4⟩ := hF base hK hB
    have e := hmg.symm.trans h4
    cases e
    exact ⟨fd, h1, h3⟩
  · refine ⟨H, [.fro (.lst (ns.map .int))], [], ⟨Same.refl H, Same.refl H, fun _ _ h _ => h, fun a h => .inl h, rfl, fun _ => [], fun i l e => ?_, fun i j l m hij e e' => ?_⟩, ?_⟩
    · cases i with
      | zero =>
        cases (show some (some (LV.fro (.lst (ns.map .int)))) = some (some l) from e)
        exact ⟨.ref a, rfl, ⟨⟨a, _, rfl, hS, reps_ints ns⟩, rfl⟩, List.nodup_nil, fun a h => absurd h (by simp)⟩
      | succ i => simp at e
    · intro a ha; cases ha
    · obtain ⟨ls', e⟩ := pure_ ns hlen
      rw [e]
      intro v H' F' s'
      obtain ⟨v', hv, r⟩ := s'.fro (i := 0) rfl
      cases hv
      exact r
  · obtain ⟨_, _, _, _, _, _, _, _, _, _, _, _, z⟩ := h
    exact z
end Br
set_option maxHeartbeats 1000000
/-! BrS1: [f, g][i](..). -/
namespace Br
open PySem PySem.Spec PyProof.Rows L2

section
variable {C : Cb} {Φ : Nat → List LV → CR} {W : WX} {X : Cx} {a b c e : Expr} {es : List Expr} {pos p p1 p2 p3 lp sp : Pos} {x1 x2 y : Str} {k j1 j2 i : Nat} {ps1 ps2 : List Str} {irs : List Arg}
end
end Br
set_option maxHeartbeats 1000000
/-! BrF1: more operations: count, index, reversed slices, dict(..), bit_length. -/
namespace Br
open PySem PySem.Spec PyProof.Rows L2
section
variable {prog : Program} {w : World} {A : Around} {E : Value → Shared → Prop} {s : Shared}
end
section
variable {X : Cx}
end

section
variable {X : Cx}
theorem rOp_2 {K : PySem.W.Frag} {o : Op} {x y : V} {H : Hp} {Q : VK} (h : rOp K o [x, y] H Q) (hr : o.raw = false := by rfl) : ∃ F p t r, Same F H ∧ RepB K F H p x ∧ RepB K F H t y ∧ opSem o [p, t] = some r ∧ ∀ v H', ResR K F H o.new r v H' → Q v H' := by
  obtain ⟨F, ps, r, e, hb, ho, q⟩ := h
  obtain ⟨p, t, rfl, h1, h2⟩ := hb.two hr
  exact ⟨F, p, t, r, e, h1, h2, ho, q⟩
theorem rOp_1 {K : PySem.W.Frag} {o : Op} {x : V} {H : Hp} {Q : VK} (h : rOp K o [x] H Q) (hr : o.raw = false := by rfl) : ∃ F p r, Same F H ∧ RepB K F H p x ∧ opSem o [p] = some r ∧ ∀ v H', ResR K F H o.new r v H' → Q v H' := by
  obtain ⟨F, ps, r, e, hb, ho, q⟩ := h
  obtain ⟨p, rfl, h1⟩ := hb.one hr
  exact ⟨F, p, r, e, h1, ho, q⟩
theorem MtR.imp {id : String} {r r' : V → List V → Hp → VK → Prop} (h : MtR X id r) (i : ∀ x xs H Q, r' x xs H Q → r x xs H Q) : MtR X id r' :=
  fun pins s σ H x xs v us Q I rx rxs q => h pins s σ H x xs v us Q I rx rxs (i x xs H Q q)
end

section
variable {C : Cb} {Φ : Nat → List LV → CR} {W : WX} {X : Cx} {a b c e : Expr} {es : List Expr} {pos p : Pos} {x : Str} {ia ib ic : Arg}
end
end Br
set_option maxHeartbeats 1000000
/-! BrF2: sorted, min, max of data. -/
namespace Br
open PySem PySem.Spec PyProof.Rows L2

section
variable {X : Cx}
mutual
theorem toD_inj : ∀ (n : Nat) (p q : PV), p.isT n = true → q.isT n = true → p.toD = q.toD → p = q
  | n, p, q, hp, hq, h => by
    match n, p, q, hp, hq, h with
    | _, .non, .non, _, _, _ => rfl
    | _, .bl a, .bl b, _, _, h => simp only [PV.toD, PyData.bool.injEq] at h; rw [h]
    | _, .int a, .int b, _, _, h => simp only [PV.toD, PyData.int.injEq] at h; rw [h]
    | _, .str a, .str b, _, _, h => simp only [PV.toD, PyData.str.injEq] at h; rw [h]
    | n + 1, .tup a, .tup b, hp, hq, h =>
      simp only [PV.toD, PyData.tuple.injEq] at h
      unfold PV.isT at hp hq
      rw [toDs_inj n a b hp hq h]
    | n + 1, .lst a, .lst b, hp, hq, h =>
      simp only [PV.toD, PyData.list.injEq] at h
      unfold PV.isT at hp hq
      rw [toDs_inj n a b hp hq h]
    | _, .non, .bl _, _, _, h => simp [PV.toD] at h
    | _, .non, .int _, _, _, h => simp [PV.toD] at h
    | _, .non, .str _, _, _, h => simp [PV.toD] at h
    | _, .non, .tup _, _, _, h => simp [PV.toD] at h
    | _, .non, .lst _, _, _, h => simp [PV.toD] at h
    | _, .bl _, .non, _, _, h => simp [PV.toD] at h
    | _, .bl _, .int _, _, _, h => simp [PV.toD] at h
    | _, .bl _, .str _, _, _, h => simp [PV.toD] at h
    | _, .bl _, .tup _, _, _, h => simp [PV.toD] at h
    | _, .bl _, .lst _, _, _, h => simp [PV.toD] at h
    | _, .int _, .non, _, _, h => simp [PV.toD] at h
    | _, .int _, .bl _, _, _, h => simp [PV.toD] at h
    | _, .int _, .str _, _, _, h => simp [PV.toD] at h
    | _, .int _, .tup _, _, _, h => simp [PV.toD] at h
    | _, .int _, .lst _, _, _, h => simp [PV.toD] at h
    | _, .str _, .non, _, _, h => simp [PV.toD] at h
    | _, .str _, .bl _, _, _, h => simp [PV.toD] at h
    | _, .str _, .int _, _, _, h => simp [PV.toD] at h
    | _, .str _, .tup _, _, _, h => simp [PV.toD] at h
    | _, .str _, .lst _, _, _, h => simp [PV.toD] at h
    | _, .tup _, .non, _, _, h => simp [PV.toD] at h
    | _, .tup _, .bl _, _, _, h => simp [PV.toD] at h
    | _, .tup _, .int _, _, _, h => simp [PV.toD] at h
    | _, .tup _, .str _, _, _, h => simp [PV.toD] at h
    | _, .tup _, .lst _, _, _, h => simp [PV.toD] at h
    | _, .lst _, .non, _, _, h => simp [PV.toD] at h
    | _, .lst _, .bl _, _, _, h => simp [PV.toD] at h
    | _, .lst _, .int _, _, _, h => simp [PV.toD] at h
    | _, .lst _, .str _, _, _, h => simp [PV.toD] at h
    | _, .lst _, .tup _, _, _, h => simp [PV.toD] at h
    | 0, .tup _, .tup _, hp, _, _ => simp [PV.isT] at hp
    | 0, .lst _, .lst _, hp, _, _ => simp [PV.isT] at hp
    | n, .ty _, _, hp, _, _ => cases n <;> simp [PV.isT] at hp
    | n, .xt _, _, hp, _, _ => cases n <;> simp [PV.isT] at hp
    | n, _, .xt _, _, hq, _ => cases n <;> simp [PV.isT] at hq
    | n, .exc _, _, hp, _, _ => cases n <;> simp [PV.isT] at hp
    | n, .dK _ _, _, hp, _, _ => cases n <;> simp [PV.isT] at hp
    | n, .dT _ _, _, hp, _, _ => cases n <;> simp [PV.isT] at hp
    | n, .dX _ _, _, hp, _, _ => cases n <;> simp [PV.isT] at hp
    | n, .obj _ _ _, _, hp, _, _ => cases n <;> simp [PV.isT] at hp
    | n, .gt _, _, hp, _, _ => cases n <;> simp [PV.isT] at hp
    | n, _, .ty _, _, hq, _ => cases n <;> simp [PV.isT] at hq
    | n, _, .exc _, _, hq, _ => cases n <;> simp [PV.isT] at hq
    | n, _, .dK _ _, _, hq, _ => cases n <;> simp [PV.isT] at hq
    | n, _, .dT _ _, _, hq, _ => cases n <;> simp [PV.isT] at hq
    | n, _, .dX _ _, _, hq, _ => cases n <;> simp [PV.isT] at hq
    | n, _, .obj _ _ _, _, hq, _ => cases n <;> simp [PV.isT] at hq
    | n, _, .gt _, _, hq, _ => cases n <;> simp [PV.isT] at hq
theorem toDs_inj : ∀ (n : Nat) (l m : List PV), l.all (PV.isT n) = true → m.all (PV.isT n) = true → PV.toDs l = PV.toDs m → l = m
  | _, [], [], _, _, _ => rfl
  | _, [], _ :: _, _, _, h => by simp [PV.toDs] at h
  | _, _ :: _, [], _, _, h => by simp [PV.toDs] at h
  | n, p :: l, q :: m, hl, hm, h => by
    rw [List.all_cons, Bool.and_eq_true] at hl hm
    simp only [PV.toDs, List.cons.injEq] at h
    rw [toD_inj n p q hl.1 hm.1 h.1, toDs_inj n l m hl.2 hm.2 h.2]
end
end
section
variable {C : Cb} {Φ : Nat → List LV → CR} {W : WX} {X : Cx} {a b c e : Expr} {es : List Expr} {pos p : Pos} {x : Str} {ia ib ic : Arg}
theorem q_sl01 {p2 : Pos} (o : XO X C) (ha : PE X a (tA1 C Φ W ia)) (hb : PE X b (tA1 C Φ W ib)) : PE X (.Subscript a (.Slice none (some b) none p2) pos) (tO C Φ W (.slc false true) [ia, ib]) := o_sl01 o ha hb
theorem q_sl11 {p2 : Pos} (o : XO X C) {ib ic : Ex} (ha : PE X a (tA1 C Φ W ia)) (hb : PE X b (tE C Φ W ib)) (hc : PE X c (tE C Φ W ic)) : PE X (.Subscript a (.Slice (some b) (some c) none p2) pos) (tE C Φ W (.sl2 ia ib ic)) := e_sl11 o ha hb hc
end
end Br
set_option maxHeartbeats 1000000
/-! BrF3: x.pop(i), x.insert(i, e). -/
namespace Br
open PySem PySem.Spec PyProof.Rows L2
section
variable {C : Cb} {Φ : Nat → List LV → CR} {W : WX} {X : Cx} {a b c e f : Expr} {es : List Expr} {pos : Pos} {x : Str} {pr : List Nat} {n : Nat}
/-! the same as expressions -/
/-! {x: y} -/
end
end Br
set_option maxHeartbeats 1000000
/-! BrG1: an own value in front of a state is hidden while others are evaluated (groundwork for own temporaries as arguments). -/
namespace Br
open PySem PySem.Spec PyProof.Rows L2
section
variable {C : Cb} {F H : Hp} {ρ : Env} {σ : L2.St} {l : LV} {v : V}
end
end Br
set_option maxHeartbeats 2000000
/-! BrG2: walks over a dict of our own, locked as long as it is walked. -/
namespace Br
open PySem PySem.Spec PyProof.Rows L2
section
variable {C : Cb} {F H : Hp} {ρ : Env} {σ : L2.St}
end

section
variable {C : Cb} {Φ : Nat → List LV → CR} {W : WX} {pr : List Nat} {n : Nat}
end
/-! ### the statements -/
def bSs (K : PySem.W.Frag) (Φ : Nat → List LV → CR) (W : WX) (pr : List Nat) (n : Nat) (b : List St) : TS := fun D σ H => ∃ C : Cb, C.K = K ∧ tSs C Φ W pr n b D σ H
theorem bSs.to {K : PySem.W.Frag} {Φ : Nat → List LV → CR} {W : WX} {pr : List Nat} {n : Nat} {b : List St} {X : Cx} {sb : List Stmt} (h : ∀ C : Cb, C.K = K → PSs X sb (tSs C Φ W pr n b)) : PSs X sb (bSs K Φ W pr n b) :=
  ⟨fun pins s σ H D I q => by obtain ⟨C, hC, q⟩ := q; exact (h C hC).run pins s σ H D I q⟩
/-! ### frozen for the time of the walk -/
section
variable {K : PySem.W.Frag} {F F' : Hp} {a : Addr} {od : Obj} {kv : List (Key × V)}
/-- without what lies at a -/
def less (F : Hp) (a : Addr) : Hp := fun b => if b = a then none else F b
theorem less_ne {b : Addr} (h : b ≠ a) : less F a b = F b := if_neg h
/-- a dict -/
def DicU : HO → Prop
  | .dK _ => True
  | .dT _ => True
  | _ => False
theorem less_get {b : Addr} {o : HO} {u : HO} (fa : F a = some (.frz od u)) (h : F b = some o) (n : o ≠ .frz od u) : less F a b = some o := by
  rw [less_ne]
  · exact h
  · intro z
    subst z
    rw [fa] at h
    cases h
    exact n rfl
mutual
theorem Rep.thin {u : HO} (hu : DicU u) (fa : F a = some (.frz od u)) : ∀ {p : PV} {v : V}, p.noD = true → Rep K F p v → Rep K (less F a) p v
  | .non, _, _, h => h
  | .bl _, _, _, h => h
  | .int _, _, _, h => h
  | .str _, _, _, h => h
  | .ty _, _, _, h => h
  | .exc _, _, _, h => by
    obtain ⟨b, oe, vs, h1, h2, h3⟩ := h
    exact ⟨b, oe, vs, h1, less_get fa h2 (fun z => nomatch z), h3⟩
  | .tup l, _, hn, h => by
    obtain ⟨b, xs, h1, h2, h3⟩ := h
    exact ⟨b, xs, h1, less_get fa h2 (fun z => nomatch z), Reps.thin hu fa (by rw [PV.noD] at hn; exact hn) h3⟩
  | .xt l, _, hn, h => by
    obtain ⟨b, xs, o, h1, h2, h3, h4⟩ := h
    exact ⟨b, xs, o, h1, less_get fa h2 (fun z => by cases z; exact hu.elim), h3, Reps.thin hu fa (by rw [PV.noD] at hn; exact hn) h4⟩
  | .lst l, _, hn, h => by
    obtain ⟨b, xs, h1, h2, h3⟩ := h
    refine ⟨b, xs, h1, ?_, Reps.thin hu fa (by rw [PV.noD] at hn; exact hn) h3⟩
    rcases h2 with (h | ⟨o, h⟩) | h
    · exact .inl (.inl (less_get fa h (fun z => nomatch z)))
    · exact .inl (.inr ⟨o, less_get fa h (fun z => by cases z; exact hu.elim)⟩)
    · exact .inr h
  | .dK ks l, _, hn, h => by rw [PV.noD] at hn; cases hn
  | .dT ks l, _, hn, h => by rw [PV.noD] at hn; cases hn
  | .dX ks l, _, hn, h => by rw [PV.noD] at hn; cases hn
  | .obj _ _ _, _, hn, h => by rw [PV.noD] at hn; cases hn
  | .gt _, _, hn, h => by rw [PV.noD] at hn; cases hn
theorem Reps.thin {u : HO} (hu : DicU u) (fa : F a = some (.frz od u)) : ∀ {l : List PV} {xs : List V}, PV.noDs l = true → Reps K F l xs → Reps K (less F a) l xs
  | [], _, _, h => h
  | p :: l, _, hn, h => by
    rw [PV.noDs, Bool.and_eq_true] at hn
    obtain ⟨x, r, h1, h2, h3⟩ := h
    exact ⟨x, r, h1, Rep.thin hu fa hn.1 h2, Reps.thin hu fa hn.2 h3⟩
end
theorem own_thin {H : Hp} {b : Addr} {u : HO} (hu : DicU u) (fa : F a = some (.frz od u)) {p q : PV} (h : thinL (.own p) = some (.own q)) (o : OwnAt K F H b p) : p = q ∧ OwnAt K (less F a) H b p := by
  cases p with
  | lst l =>
    simp only [thinL] at h
    split at h
    · rename_i hn
      cases h
      obtain ⟨xs, h1, h2⟩ := o
      exact ⟨rfl, xs, h1, Reps.thin hu fa hn h2⟩
    · cases h
  | dK ks l =>
    simp only [thinL] at h
    split at h
    · rename_i hn
      cases h
      obtain ⟨xs, h1, h2, h3, h4⟩ := o
      exact ⟨rfl, xs, h1, h2, h3, Reps.thin hu fa hn h4⟩
    · cases h
  | dT ks l =>
    simp only [thinL] at h
    split at h
    · rename_i hn
      cases h
      obtain ⟨xs, h1, h2, h3, h4⟩ := o
      exact ⟨rfl, xs, h1, h2, h3, Reps.thin hu fa hn h4⟩
    · cases h
  | dX ks l =>
    simp only [thinL] at h
    split at h
    · rename_i hn
      cases h
      obtain ⟨bs, xs, h1, h2, h3, h4, h5, h6, h7⟩ := o
      exact ⟨rfl, bs, xs, h1, h2, h3, h4, h5, Reps.thin hu fa hn.2 h6, Reps.thin hu fa hn.1 h7⟩
    · cases h
  | _ => exact False.elim o
theorem RepL.thin {H : Hp} {u : HO} (hu : DicU u) (fa : F a = some (.frz od u)) {l l' : LV} {v : V} {fp : List Addr} (h : thinL l = some l') (r : RepL K F H l v fp) : l = l' ∧ RepL K (less F a) H l' v fp := by
  cases l with
  | fro p =>
    simp only [thinL] at h
    split at h
    · rename_i hn
      cases h
      exact ⟨rfl, Rep.thin hu fa hn r.1, r.2⟩
    · cases h
  | own p =>
    obtain ⟨b, h1, h2, h3⟩ := r
    have hq : ∃ q, l' = .own q := by
      cases p <;> simp only [thinL] at h <;> first | (split at h <;> first | (cases h; exact ⟨_, rfl⟩) | cases h) | cases h
    obtain ⟨q, rfl⟩ := hq
    obtain ⟨rfl, h4⟩ := own_thin hu fa h h2
    exact ⟨rfl, b, h1, h4, h3⟩
  | ins c ns ls => cases h
end
section
variable {K : PySem.W.Frag} {Hl F : Hp} {A : List Addr} {ρ : Env} {σ : L2.St} {a : Addr} {od : Obj} {kv : List (Key × V)}
end
theorem XC.to {X : Cx} {C C' : Cb} (o : XC X C) (h : C'.K = C.K) : XC X C' := ⟨⟨h.trans o.K, o.nd, o.un⟩, o.calm⟩
section
variable {C : Cb} {Φ : Nat → List LV → CR} {W : WX} {pr : List Nat} {n : Nat} {X : Cx} {tg : Expr} {pos p : Pos} {x : Str} {sb : List Stmt}
end
end Br
set_option maxHeartbeats 2000000
/-! BrG3: a temporary of our own as an argument that the def may write; displays of pairs whose object is known. -/
namespace Br
open PySem PySem.Spec PyProof.Rows L2
section
variable {K : PySem.W.Frag} {F : Hp} {σ : L2.St} {w : Option V}
theorem AVR.sh : ∀ {a : AV} {v : V}, AVR K F σ a v → AVR K F (w :: σ) a.sh v
  | .val _, _, h => h
  | .ref _, _, h => h
theorem AVRs.sh : ∀ {as : List AV} {vs : List V}, AVRs K F σ as vs → AVRs K F (w :: σ) (as.map AV.sh) vs
  | [], _, h => h
  | a :: as, _, h => by
    obtain ⟨v, r, h1, h2, h3⟩ := h
    exact ⟨v, r, h1, h2.sh, AVRs.sh h3⟩
theorem AVRs.app : ∀ {as bs : List AV} {vs ws : List V}, AVRs K F σ as vs → AVRs K F σ bs ws → AVRs K F σ (as ++ bs) (vs ++ ws)
  | [], _, vs, _, h, k => by rw [show vs = [] from h]; exact k
  | a :: as, _, _, _, h, k => by
    obtain ⟨v, r, rfl, h2, h3⟩ := h
    exact ⟨v, _, rfl, h2, AVRs.app h3 k⟩
end
section
variable (C : Cb) (Φ : Nat → List LV → CR) (W : WX)
/-- arguments' reading over any base -/
def bAs (K : PySem.W.Frag) (bs : List Arg) : TA := fun σ H Q => ∃ C : Cb, C.K = K ∧ tAs C Φ W bs σ H Q
end
section
variable {C : Cb} {Φ : Nat → List LV → CR} {W : WX} {X : Cx} {a e : Expr} {es : List Expr} {pos p : Pos} {x : Str}
theorem bAs.to {K : PySem.W.Frag} {bs : List Arg} (h : ∀ C : Cb, C.K = K → PA X es (tAs C Φ W bs)) : PA X es (bAs Φ W K bs) :=
  ⟨fun pos pins s σ H Q I q => by obtain ⟨C, hC, q⟩ := q; exact (h C hC).run pos pins s σ H Q I q⟩
end
end Br
set_option maxHeartbeats 4000000
/-! BrX1: try .. except X as e: the refusal is tracked as its one object; isinstance of it; defs that an except suite calls. -/
namespace Br
open PySem PySem.Spec PyProof.Rows L2

/-! ### what the head says of the refusals' classes -/
def clsU (K : PySem.W.Frag) (x : Str) : Value := if x = "ValueError" then .type "ValueError" else .ref (He.ga K x)
def clsW (K : PySem.W.Frag) (x : Str) : V := if x = "ValueError" then .ty "ValueError" else .ref (He.ga K x)
theorem clsV_of (K : PySem.W.Frag) (x : Str) : ClsV (clsW K x) (clsU K x) := by
  unfold clsW clsU
  by_cases h : x = "ValueError"
  · rw [if_pos h, if_pos h]; exact .ty _
  · rw [if_neg h, if_neg h]; exact .own _
def exB0 (K : PySem.W.Frag) (D : Addr) : Bool := He.eqO (PySem.W.findIn K (.ref D) "__getattribute__") (some (some (.builtin "BaseException.__getattribute__"))) &&
  (He.eqO (PySem.W.findIn K (.ref D) "__getattr__") (some none) && (decide (PySem.W.subIn K (.ref D) (.type "BaseException") = some true) && (PySem.W.hasDictIn K D &&
  (He.eqO (PySem.W.findIn K (.ref D) "__class__") (some (some (.builtin "object.__class__"))) && (He.eqO (PySem.W.specialIn K (.builtin "object.__class__") "__get__") (some (some (.builtin "getset_descriptor.__get__"))) &&
  (decide (PySem.W.takesIn K (.builtin "object.__class__") = some true) && decide (PySem.W.mroIn K D (.type "object") = some true)))))))
theorem exB0_ok {K : PySem.W.Frag} {D : Addr} (h : exB0 K D = true) : ExcC K D := by
  unfold exB0 at h
  simp only [Bool.and_eq_true, decide_eq_true_eq] at h
  obtain ⟨h1, h2, h3, h4, h5, h6, h7, h8⟩ := h
  exact ⟨He.eqO_ok h1, He.eqO_ok h2, h3, h4, He.eqO_ok h5, He.eqO_ok h6, h7, h8⟩
def exB (kn : List Str) (K : PySem.W.Frag) : Bool := (kn.all fun c => exB0 K (He.ga K c)) && ((kn.all fun c => (("BrimError" : Str) :: "ValueError" :: kn).all fun x => decide (PySem.W.kitOne K (.ref (He.ga K c)) (clsU K x) = some (subX c x))) &&
  ((kn.all fun c => (("BrimError" : Str) :: kn).all fun x => decide (PySem.W.exmOne K (.ref (He.ga K c)) (.ref (He.ga K x)) = some (subX c x))) && (("BrimError" : Str) :: "ValueError" :: kn).all fun x => decide (PySem.W.kitOne K (.type "NoneType") (clsU K x) = some false)))
structure EX (kn : List Str) (K : PySem.W.Frag) : Prop where
  c : ∀ c ∈ kn, ExcC K (He.ga K c)
  k : ∀ c ∈ kn, ∀ x ∈ ("BrimError" : Str) :: "ValueError" :: kn, PySem.W.kitOne K (.ref (He.ga K c)) (clsU K x) = some (subX c x)
  m : ∀ c ∈ kn, ∀ x ∈ ("BrimError" : Str) :: kn, PySem.W.exmOne K (.ref (He.ga K c)) (.ref (He.ga K x)) = some (subX c x)
  n : ∀ x ∈ ("BrimError" : Str) :: "ValueError" :: kn, PySem.W.kitOne K (.type "NoneType") (clsU K x) = some false
theorem exB_ok {kn : List Str} {K : PySem.W.Frag} (h : exB kn K = true) : EX kn K := by
  unfold exB at h
  rw [Bool.and_eq_true, Bool.and_eq_true, Bool.and_eq_true] at h
  obtain ⟨h1, h2, h3, h4⟩ := h
  exact ⟨fun c hc => exB0_ok (List.all_eq_true.mp h1 c hc), fun c hc x hx => of_decide_eq_true (List.all_eq_true.mp (List.all_eq_true.mp h2 c hc) x hx),
    fun c hc x hx => of_decide_eq_true (List.all_eq_true.mp (List.all_eq_true.mp h3 c hc) x hx), fun x hx => of_decide_eq_true (List.all_eq_true.mp h4 x hx)⟩
/-- the head's Hook with these facts -/
abbrev AlX : Type := Bool × He.AlD
def obsX (n : Nat) (ck : PySem.W.Frag → Bool) (fa : List He.Fa) (fn : List He.DefD) (g : Addr → Option Obj) : AlX := (ck (He.frG g (He.asD g n)), He.obsDG n fa fn g)
def SaysX (ck : PySem.W.Frag → Bool) (fa : List He.Fa) (fn : List He.DefD) (K : PySem.W.Frag) : Prop := ck K = true ∧ He.SaysD fa fn K
def hookX (n : Nat) (ck : PySem.W.Frag → Bool) (fa : List He.Fa) (fn : List He.DefD) : PySem.W.Hook where
  α := AlX
  obs := fun s => obsX n ck fa fn s.heap.get?
  val := fun _ => (true, He.valD fn)
  says := fun _ h => ∃ K : PySem.W.Frag, K.In h ∧ SaysX ck fa fn K
  of := fun _ _ e => ⟨_, He.frG_in, congrArg Prod.fst e, congrArg Prod.snd e⟩
  keeps := fun _ _ _ ⟨K, hK, c⟩ k => ⟨K, PySem.W.Frag.In.keeps hK k, c⟩
theorem obsX_eq {n : Nat} {ck : PySem.W.Frag → Bool} {fa : List He.Fa} {fn : List He.DefD} {g : Addr → Option Obj} {s : Shared} (h : ∀ a, g a = s.heap.get? a) : obsX n ck fa fn g = (hookX n ck fa fn).obs s := by
  have e : g = s.heap.get? := funext h
  rw [e] <;> rfl

/-! ### isinstance of a refusal, or of None -/
section
variable {X : Cx}
/-- an exception's object, as the state has it -/
theorem inst_of {pins : List (Addr × Obj)} {σ : L2.St} {H : Hp} {s : Shared} {F : Hp} {c : Str} {v : V} (I : L2.Inv X pins σ H s) (e : Same F H) (h : ExcR X.K F c v) : ∃ a oe, v = .ref a ∧ PySem.W.InstAt s.heap a oe (He.ga X.K c) none := by
  obtain ⟨a, oe, vs, rfl, hF, ⟨z1, z2⟩, hd⟩ := h
  obtain ⟨hg, _, _⟩ := I.hok a _ (e _ _ hF)
  have hg : s.heap.get? a = some oe := hg
  obtain ⟨oc, od, oda, osl⟩ := oe
  dsimp only at z1 z2 hd
  subst z1 z2 hd
  exact ⟨a, _, rfl, hg, rfl, rfl, trivial⟩
theorem isEx_end {kn cs : List Str} {ps : List PV} {r : PV} (h : isExP kn cs ps = some r) : (∀ x ∈ cs, x ∈ ("BrimError" : Str) :: "ValueError" :: kn) ∧ ((∃ c, ps = [.exc c] ∧ c ∈ kn ∧ r = .bl (cs.any (subX c))) ∨ (ps = [.non] ∧ r = .bl false)) := by
  unfold isExP at h
  split at h
  · split at h
    · rename_i c h1
      cases h
      exact ⟨h1.2, .inl ⟨c, rfl, h1.1, rfl⟩⟩
    · cases h
  · split at h
    · rename_i h1
      cases h
      exact ⟨h1, .inr ⟨rfl, rfl⟩⟩
    · cases h
  · cases h
theorem cr_isEx1 {kn : List Str} {c : Str} (hx : EX kn X.K) : CallR X (.builtin "isinstance") (fun xs H Q => ∃ x, xs = [x, clsW X.K c] ∧ rOp X.K (.isEx kn [c]) [x] H Q) := by
  intro pins s σ H xs us Q I r h
  obtain ⟨x, rfl, F, ps, q, e, hb, ho, qq⟩ := h
  obtain ⟨p, rfl, h1⟩ := hb.one
  obtain ⟨h2, h3⟩ := isEx_end ho
  have hc := h2 c (by simp)
  rcases h3 with ⟨d, hd, hk, rfl⟩ | ⟨hd, rfl⟩
  · cases hd
    cases r with
    | cons rx rr =>
      cases rr with
      | cons rt rr =>
        cases rr
        have et := (clsV_of X.K c).eq rt
        subst et
        obtain ⟨a, oe, rfl, J⟩ := inst_of I e h1
        cases rx
        have C := hx.c d hk
        refine PySem.W.kia_one (PySem.W.handS_kitx_exc C.hg C.hk C.hs C.hd C.ha C.hn C.ht C.hm) I.kIn J (hx.k d hk c hc) (fun z => nomatch z) fun tk => ⟨.bl (subX d c), H, I.kept (t' := tk) fun _ _ z => z, rfl, ?_⟩
        have := qq (.bl ([c].any (subX d))) H (.inl ⟨rfl, rfl, fun _ => rfl⟩)
        simpa using this
  · cases hd
    have hn : x = .non := h1
    subst hn
    exact call_isi pins s σ H _ us Q I r ⟨.non, clsW X.K c, _, _, false, rfl, clsV_of X.K c, .base .non, hx.n c hc, qq _ H (.inl ⟨rfl, rfl, fun _ => rfl⟩)⟩
end
section
variable {C : Cb} {Φ : Nat → List LV → CR} {W : WX} {X : Cx} {a b c e : Expr} {es : List Expr} {pos p : Pos} {x : Str}
/-- a class by its name -/
theorem tc_own (hg : Gl X x) (hm : X.mg x = some (.ref (He.ga X.K x))) (hn : x ≠ "ValueError" := by decide) (hd : (x == ("__debug__" : Str)) = false := by decide) : PE X (.Name x p) (tC (clsW X.K x)) := by
  unfold clsW
  rw [if_neg hn]
  exact pe_glob hg hm rfl hd
theorem boot_ve : bootBuiltins "ValueError" = some (.type "ValueError") := by decide +kernel
theorem tc_ve (hg : Gl X "ValueError") (hm : X.mg "ValueError" = none) : PE X (.Name "ValueError" p) (tC (clsW X.K "ValueError")) := by
  unfold clsW
  rw [if_pos rfl]
  exact pe_bltn hg hm boot_ve rfl
/-- isinstance(x, C) -/
theorem o_isX1 {kn : List Str} {cl : Str} {ia : Arg} (hx : EX kn X.K) (hg : Gl X "isinstance") (hm : X.mg "isinstance" = none) (o : XO X C) (ha : PE X a (tA1 C Φ W ia)) (hb : PE X b (tC (clsW X.K cl)))
    (he : starEach [a, b] X.env = (false, eval a X.env) :: starEach [b] X.env := by rfl) (he2 : starEach [b] X.env = (false, eval b X.env) :: starEach [] X.env := by rfl) (hpl : (backTo pos (starEach [b] X.env)).any (·.1) = false := by rfl) :
    PE X (.Call (.Name "isinstance" p) [a, b] [] pos) (tO C Φ W (.isEx kn [cl]) [ia]) :=
  (pe_callB (cr_isEx1 (c := cl) hx) hg hm boot_isinstance (pa_cons ha (pa_cons hb pa_nil he2) he) (by decide) (by decide) he hpl).weak fun σ H Q q =>
    (tO_1 q).imp fun v H' k => ⟨v, rfl, by rw [← o.K]; exact k⟩
end

/-! ### try .. except x as n, the exception's object tracked -/
/-- a fresh object is tracked from now on -/
theorem track {X : Cx} {pins : List (Addr × Obj)} {σ : L2.St} {H : Hp} {s : Shared} {a : Addr} {oe : Obj} {vs : Array Value} (I : L2.Inv X pins σ H s) (na : H a = none) (ha : s.heap.get? a = some oe) (hd : oe.data = .fields vs) (nL : a ≠ X.env.locals)
    (n0 : X.s_0.heap.get? a = none) (np : ∀ p ∈ X.pn ++ pins, p.1 ≠ a) : L2.Inv X pins σ (upd H a (.ext fun h => h.get? a = some oe)) s := by
  have ne0 : ∀ {b : Addr} {o : Obj}, X.s_0.heap.get? b = some o → b ≠ a := fun {b o} e z => by rw [z, n0] at e; cases e
  have neH : ∀ {b : Addr} {u : HO}, H b = some u → b ≠ a := fun {b u} e z => by rw [z, na] at e; cases e
  have up : ∀ {b : Addr} {u : HO}, H b = some u → upd H a (.ext fun h => h.get? a = some oe) b = some u := fun {b u} e => by rw [upd_ne (neH e)]; exact e
  refine ⟨I.ok, I.os, I.bare, ⟨I.base.keep, I.base.slot, fun b o e n hx => ?_, I.base.there, fun b xs e => up (I.base.tups b xs e), fun b o u e => up (I.base.frzs b o u e), fun b ps e => ?_⟩, I.loc, I.cell, ?_, fun x c e => ?_, fun p hp => ?_, fun b u e => ?_, I.len⟩
  · rw [upd_ne (ne0 e)]; exact I.base.free b o e n hx
  · obtain ⟨more, m⟩ := I.base.tbls b ps e
    exact ⟨more, up m⟩
  · rw [upd_ne (Ne.symm nL)]; exact I.free
  · have nc : c ≠ a := fun z => by
      obtain ⟨v, o, ho, hc⟩ := I.cell x c e
      rw [z, ha] at ho
      cases ho
      rw [hd] at hc
      cases hc
    rw [upd_ne nc]; exact I.freeC x c e
  · obtain ⟨h1, h2, h3⟩ := I.pin p hp
    exact ⟨h1, by rw [upd_ne (np p hp)]; exact h2, h3⟩
  · by_cases hb : b = a
    · subst hb
      rw [upd_same] at e
      cases e
      exact ⟨ha, ⟨oe, ha⟩, fun h1 h2 q k => k _ q⟩
    · rw [upd_ne hb] at e
      exact (I.hok b u e).stay (fun _ _ _ q => q) (fun c q => up q) fun c xs q => up q

/-- what the clause wishes of an exception of the body -/
def wAsX (K : PySem.W.Frag) (c : Value) (i : Nat) (ts : TS) (Wout : WX) (D : Ends) : WX := fun cls d σ H =>
  ∃ b, PySem.W.exmOne K cls c = some b ∧ (b = true → ∀ a oe vs, H a = none → Zc cls d oe → oe.data = .fields vs →
      ts { nx := fun σ' H' => D.nx (σ'.set i none) H', rt := D.rt, bk := fun σ' H' => D.bk (σ'.set i none) H', ct := fun σ' H' => D.ct (σ'.set i none) H' } (σ.set i (some (.ref a))) (upd H a (.ext fun h => h.get? a = some oe))) ∧
    (b = false → Wout cls d σ H)
/-- the suite's context -/
abbrev suX (X : Cx) (a : Addr) (pn : List (Addr × Obj)) : Cx := { X with A := X.A.mark (some (.ref a)), calm := false, pn := pn, xe := fun _ _ => False }
theorem inv_suX {X : Cx} {pins : List (Addr × Obj)} {σ : L2.St} {H : Hp} {s : Shared} (I : L2.Inv X pins σ H s) (a : Addr) : L2.Inv (suX X a (X.pn ++ pins)) [] σ H s :=
  ⟨I.ok.suite _ _, I.os, I.bare, I.base, I.loc, I.cell, I.free, I.freeC, fun p hp => I.pin p (by rw [List.append_nil] at hp; exact hp), I.hok, I.len⟩
theorem inv_unX {X : Cx} {pins pn' : List (Addr × Obj)} {σ : L2.St} {H : Hp} {s : Shared} {a : Addr} (I : L2.Inv (suX X a (X.pn ++ pins)) pn' σ H s) (ok : X.Ok) : L2.Inv X pins σ H s :=
  ⟨ok, I.os, I.bare, I.base, I.loc, I.cell, I.free, I.freeC, fun p hp => I.pin p (List.mem_append_left _ hp), I.hok, I.len⟩
section
variable {X : Cx} {x n : Str} {c : Value} {i : Nat} {body suite : List Stmt} {b₀ : Stmt} {np pos pos' : Pos} {tb : WX → TS} {ts : TS} {Wout : WX}
theorem ps_asX (hex : X.ex = []) (hs : X.stack = X.env :: X.outer) (hf : X.env.frame = some X.env.locals) (hN : X.N.Nodup) (hi : X.N[i]? = some n) (hln : X.env.kindOf n = some .local) (hc : Names X x c) (tk : Takes X Wout)
    (hb : ∀ (W : WX) (pn : List (Addr × Obj)) (xe : Value → Shared → Prop), Takes (X.tr pn xe) W → PassesOwn (model X.prog X.w) X.A X.env xe → PSs (X.tr pn xe) body (tb W))
    (hsu : ∀ (a : Addr) (pn : List (Addr × Obj)), PSs (suX X a pn) (b₀ :: suite) ts) :
    PS X (.Try body [.ExceptHandler (some (.Name x np)) (some n) (b₀ :: suite) pos'] [] [] pos) (fun D σ H => tb (wAsX X.K c i ts Wout D) D σ H) := by
  refine ⟨fun pins s σ H D I h => ?_⟩
  have ok := I.ok
  have frm : X.A.frames = some (X.env :: X.outer) := by rw [ok.frames, hs]
  -- the body's run, in the try's context
  have run := (hb (wAsX X.K c i ts Wout D) (X.pn ++ pins) (fun e s₁ => wpAny (model X.prog X.w) X.A (noteFrame e X.env) (fun _ s₂ => wpAny (model X.prog X.w) X.A (setFlight e none) (fun _ s₃ =>
    wpAny (model X.prog X.w) X.A (handleBy e X.env [.ExceptHandler (some (.Name x np)) (some n) (b₀ :: suite) pos']) (SP X pins D) X.xe s₃) X.xe s₂) X.xe s₁) (fun u s' air => ?_) PassesOwn.looking).run [] s σ H D (I.toTry _) h
  · refine wpAny_Try_except (wpAny_mono run (fun f s1 hsp => ?_) fun e s1 he => he)
    cases f with
    | next => obtain ⟨σ1, H1, J1, q1⟩ := hsp; exact wpAny_execs_nil ⟨σ1, H1, J1.ofTry ok, q1⟩
    | brk => obtain ⟨σ1, H1, J1, q1⟩ := hsp; exact ⟨σ1, H1, J1.ofTry ok, q1⟩
    | cont => obtain ⟨σ1, H1, J1, q1⟩ := hsp; exact ⟨σ1, H1, J1.ofTry ok, q1⟩
    | ret u => obtain ⟨v, σ1, H1, J1, r1, q1⟩ := hsp; exact ⟨v, σ1, H1, J1.ofTry ok, r1, q1⟩
  -- the catch
  obtain ⟨a, B, sI, pT, σ1, H1, cls, d, rfl, JT, nb, up, sky, na, os, ag, b, hb1, hyes, hno⟩ := air
  have J : L2.Inv X pins σ1 H1 sI := JT.ofTry ok
  have sky1 : Sky B (X.env :: X.outer) a (Zc cls d) X.env.locals s'.heap := by rw [← hs]; exact sky
  show wpAny (model X.prog X.w) X.A (noteFrame (.ref a) X.env) _ _ _
  refine Sky.land Zc.steady frm hf sky1 fun h3 fl3 up3 => ?_
  have J3 : L2.Inv X pins σ1 H1 { s' with heap := h3 } := J.landed nb fl3.1 (up.trans up3) os ag
  obtain ⟨oe3, vs3, he3, hz3, hd3⟩ := fl3.there
  have nfr : a ∉ frs (X.env :: X.outer) := fun hm => by
    obtain ⟨_, o, e, hnf⟩ := fl3.2.2.1.mem hm
    rw [he3] at e
    cases e
    exact hnf _ hd3
  have nL : a ≠ X.env.locals := fun z => nfr (List.mem_filterMap.mpr ⟨X.env, List.mem_cons_self, by rw [hf, z]⟩)
  have nF : a ∉ X.fs := fun hm => by
    obtain ⟨e, he, q⟩ := List.mem_filterMap.mp hm
    exact nfr (List.mem_filterMap.mpr ⟨e, List.mem_cons_of_mem _ he, q⟩)
  -- it is a new object
  have nI : ∀ o, sI.heap.get? a ≠ some o := fun o e => by
    have z := nb a o e (by rw [hs]; exact nfr)
    rw [fl3.2.1] at z
    cases z
  have n0 : X.s_0.heap.get? a = none := by
    cases q : X.s_0.heap.get? a with
    | none => rfl
    | some o =>
      obtain ⟨o', e⟩ := J.base.there a o q (by rw [hex]; simp)
      exact absurd e (nI o')
  have npin : ∀ p ∈ X.pn ++ pins, p.1 ≠ a := fun p hp z => by
    obtain ⟨e, _⟩ := J.pin p hp
    rw [z] at e
    exact nI _ e
  have S3 := J3.suite he3 hd3 na nL nF
  refine wpAny_handleBy_cons (codeAny_handlers_test ?_) (by intro q; cases q)
  have LT : PySem.W.Looks (model X.prog X.w) h3 (typeOf (.ref a)) cls := fun A Q E s k q => wpAny_typeOf_ref (k _ _ he3) (by rw [hz3.1]; exact q)
  have LM := PySem.W.exm_one (M := model X.prog X.w) (J3.kIn) LT hb1
  have test : ∀ {Q : Value → Shared → Prop} {E : Value → Shared → Prop}, Q c { s' with heap := h3 } → wpAny (model X.prog X.w) (X.A.mark (some (.ref a))) (eval (.Name x np) X.env) Q E { s' with heap := h3 } := fun {Q E} q => by
    obtain ⟨hg, hdbg, hm | ⟨hm, hv, hnn⟩⟩ := hc
    · exact ld_glob (X := X.suite a ((a, oe3) :: (X.pn ++ pins))) S3 hg hm q hdbg
    · exact ld_blt (X := X.suite a ((a, oe3) :: (X.pn ++ pins))) S3 hg hm hv q hnn hdbg
  refine test (LM.here ?_)
  cases b with
  | true =>
    refine codeAny_handlers_suite_as (HandSPX.lands_againZ fl3 fun h4 fl4 up4 => ?_)
    have J4 : L2.Inv X pins σ1 H1 { s' with heap := h4 } := J.landed nb fl4.1 ((up.trans up3).trans up4) os ag
    obtain ⟨oe4, vs4, he4, hz4, hd4⟩ := fl4.there
    have S4 : L2.Inv (suX X a (X.pn ++ pins)) [] σ1 (upd H1 a (.ext fun h => h.get? a = some oe4)) { s' with heap := h4 } := inv_suX (track J4 na he4 hd4 nL n0 npin) a
    refine store_ok (X := suX X a (X.pn ++ pins)) (v := .ref a) S4 hN hi (.inl hln) rfl (fun s5 S5 => ?_) (.inr hln)
    refine wpAny_mono ((hsu a (X.pn ++ pins)).run [] s5 _ _ _ S5 (hyes rfl a oe4 vs4 na hz4 hd4)) (fun f s6 hsp => ?_) (fun _ _ z => False.elim z)
    have fin : ∀ {σ6 : L2.St} {H6 : Hp} {Q : Shared → Prop}, L2.Inv (suX X a (X.pn ++ pins)) [] σ6 H6 s6 → (∀ s7, L2.Inv X pins (σ6.set i none) H6 s7 → Q s7) →
        wpAny (model X.prog X.w) X.A (do bindName X.env n .none; unbindBehindTheSuite X.env n pos') (fun _ s7 => Q s7) X.xe s6 := fun {σ6 H6 Q} S6 hq => gone_ok (inv_unX S6 ok) hN hi hln hq
    cases f with
    | next => obtain ⟨σ6, H6, S6, q6⟩ := hsp; exact fin S6 fun s7 J7 => ⟨_, _, J7, q6⟩
    | brk => obtain ⟨σ6, H6, S6, q6⟩ := hsp; exact fin S6 fun s7 J7 => ⟨_, _, J7, q6⟩
    | cont => obtain ⟨σ6, H6, S6, q6⟩ := hsp; exact fin S6 fun s7 J7 => ⟨_, _, J7, q6⟩
    | ret u => obtain ⟨v6, σ6, H6, S6, r6, q6⟩ := hsp; exact fin S6 fun s7 J7 => ⟨_, _, _, J7, r6, q6⟩
  | false =>
    show wpAny _ X.A (handleBy (.ref a) X.env []) _ _ _
    refine wpAny_handleBy_nil ?_
    obtain ⟨k1, k2, k3, oe, vs, T, oT, ts', he, hz, hd, h1, hr⟩ := id fl3
    unfold PySem.passOn
    refine wpAny_bind (wpAny_field he hd h1 ?_)
    rw [if_neg (show ¬ ((Value.ref T == Value.none) = true) from by simp)]
    have up_ : wpAny (model X.prog X.w) X.A (setFlight (.ref a) X.env.frame) (fun _ s4 => wpAny (model X.prog X.w) X.A (throw (.ref a) : Sem Flow) (SP X pins D) X.xe s4) X.xe { s' with heap := h3 } := by
      rw [hf]
      refine HandSPX.setFlight_upZ fl3 fun h4 hh4 up4 => wpAny_throw (tk _ _ ?_)
      exact ⟨a, B, sI, pins, σ1, H1, cls, d, rfl, J, nb, (up.trans up3).trans up4, .inr (.inr (by rw [hs]; exact hh4)), na, os, ag, hno rfl⟩
    first
      | exact wpAny_bind (wpAny_pure (wpAny_bind up_))
      | exact wpAny_bind up_
end
end Br
set_option maxHeartbeats 4000000
/-! BrX2: the statement try; defs that an except suite calls. -/
namespace Br
open PySem PySem.Spec PyProof.Rows L2

section
variable {C : Cb} {Φ : Nat → List LV → CR} {W : WX} {pr : List Nat} {n : Nat} {X : Cx} {pos pos' np : Pos} {x y : Str} {body suite : List Stmt} {b₀ : Stmt}
theorem XC.tr (o : XC X C) {pn : List (Addr × Obj)} {xe : Value → Shared → Prop} : XC (X.tr pn xe) C := ⟨⟨o.K, o.nd, o.un⟩, o.calm⟩
theorem XO.su (o : XO X C) {a : Addr} {pn : List (Addr × Obj)} : XO (suX X a pn) C := ⟨o.K, o.nd, o.un⟩
theorem suiteX_post {i : Option Nat} {D D' : Ends} {σ σ' : L2.St} {F F' : Hp} {r : SO} (e : Same F F') (k : Kp pr σ σ') (q : SPost C W pr D σ F (suiteX i r))
    (hn : ∀ F2 ρ2 σ2 H2, SR C F2 ρ2 σ2 H2 → Kp pr σ' σ2 → (∀ σ3, Kp pr σ2 σ3 → SR C F2 (goneX i ρ2) σ3 H2 → D.nx σ3 H2) → D'.nx σ2 H2) (hb : ∀ F2 ρ2 σ2 H2, SR C F2 ρ2 σ2 H2 → Kp pr σ' σ2 → (∀ σ3, Kp pr σ2 σ3 → SR C F2 (goneX i ρ2) σ3 H2 → D.bk σ3 H2) → D'.bk σ2 H2)
    (hc : ∀ F2 ρ2 σ2 H2, SR C F2 ρ2 σ2 H2 → Kp pr σ' σ2 → (∀ σ3, Kp pr σ2 σ3 → SR C F2 (goneX i ρ2) σ3 H2 → D.ct σ3 H2) → D'.ct σ2 H2) (hr : D'.rt = D.rt) : SPost C W0 pr D' σ' F' r := by
  cases r with
  | nx ρ2 => exact fun F2 σ2 H2 e2 k2 s2 => hn F2 ρ2 σ2 H2 s2 k2 fun σ3 k3 s3 => q F2 σ3 H2 (e.trans e2) ((k.trans k2).trans k3) s3
  | bk ρ2 => exact fun F2 σ2 H2 e2 k2 s2 => hb F2 ρ2 σ2 H2 s2 k2 fun σ3 k3 s3 => q F2 σ3 H2 (e.trans e2) ((k.trans k2).trans k3) s3
  | ct ρ2 => exact fun F2 σ2 H2 e2 k2 s2 => hc F2 ρ2 σ2 H2 s2 k2 fun σ3 k3 s3 => q F2 σ3 H2 (e.trans e2) ((k.trans k2).trans k3) s3
  | rt l ρ2 => exact fun F2 σ2 H2 v e2 k2 s2 => by rw [hr]; exact q F2 σ2 H2 v (e.trans e2) (k.trans k2) s2
  | ex c ρ2 => exact False.elim q
  | st => exact False.elim q
/-- try: body, except x as y: suite -/
theorem st_tryAs {i : Nat} {kn : List Str} {ib is : List St} (hx : EX kn X.K) (o : XC X C) (hp : i ∉ pr) (tk : Takes X W) (hex : X.ex = []) (hs : X.stack = X.env :: X.outer) (hf : X.env.frame = some X.env.locals) (hi : X.N[i]? = some y) (hl : X.env.kindOf y = some .local)
    (hg : Gl X x) (hm : X.mg x = some (.ref (He.ga X.K x)))
    (hb : ∀ (W' : WX) (pn : List (Addr × Obj)) (xe : Value → Shared → Prop), Takes (X.tr pn xe) W' → PassesOwn (model X.prog X.w) X.A X.env xe → PSs (X.tr pn xe) body (tSs C Φ W' pr n ib))
    (hsu : ∀ (a : Addr) (pn : List (Addr × Obj)), PSs (suX X a pn) (b₀ :: suite) (tSs C Φ W0 pr n is)) (hd : (x == ("__debug__" : Str)) = false := by decide) :
    PS X (.Try body [.ExceptHandler (some (.Name x np)) (some y) (b₀ :: suite) pos'] [] [] pos) (tS C Φ W pr n (.tryx ib x (some i) kn is)) :=
  (ps_asX hex hs hf o.nd hi hl (c := .ref (He.ga X.K x)) ⟨hg, hd, .inl hm⟩ tk (tb := fun W' => tSs C Φ W' pr n ib) (ts := tSs C Φ W0 pr n is) hb hsu).weak fun D σ H q => by
    obtain ⟨ρ, F, s, q⟩ := q
    unfold exS at q
    refine ⟨ρ, F, s, ?_⟩
    cases hr : exSs Φ n ib ρ with
    | nx ρ1 => rw [hr] at q; exact q
    | bk ρ1 => rw [hr] at q; exact q
    | ct ρ1 => rw [hr] at q; exact q
    | rt l ρ1 => rw [hr] at q; exact q
    | st => rw [hr] at q; exact q
    | ex c ρ1 =>
      rw [hr] at q
      unfold tryK at q
      dsimp only at q
      by_cases hc : c ∈ kn ∧ x ∈ ("BrimError" : Str) :: kn
      case neg => rw [if_neg hc] at q; exact False.elim q
      rw [if_pos hc] at q
      intro F1 σ1 H1 e1 k1 s1
      refine ⟨subX c x, by rw [o.K]; exact hx.m c hc.1 x hc.2, fun hb a oe vs na hz hdt => ?_, fun hb => ?_⟩
      · rw [if_pos hb] at q
        have e2 : Same F1 (upd F1 a (.ext fun h => h.get? a = some oe)) := same_updF (s1.fnone na)
        refine ⟨_, _, (s1.alloc na (.ext fun h => h.get? a = some oe)).setFro (p := .exc c) (v := .ref a) ⟨a, oe, vs, rfl, upd_same, hz, hdt⟩ i, ?_⟩
        exact suiteX_post (e1.trans e2) (k1.trans (Kp.set hp)) q (fun F2 ρ2 σ2 H2 s2 k2 f => f _ (Kp.set hp) (s2.clear i none)) (fun F2 ρ2 σ2 H2 s2 k2 f => f _ (Kp.set hp) (s2.clear i none)) (fun F2 ρ2 σ2 H2 s2 k2 f => f _ (Kp.set hp) (s2.clear i none)) rfl
      · rw [hb, if_neg Bool.false_ne_true] at q
        exact q F1 σ1 H1 e1 k1 s1
end

/-! ### defs that a suite calls: straight on, no loops -/
structure FnG (P : Program) (w : World) (K : PySem.W.Frag) (mg : Str → Option Value) (base : Heap) (k : Nat) (f : Addr) (fd : FuncData) (ps : List Str) (sp : Sp) : Prop where
  len : ∀ vs H Q E, sp vs H Q E → vs.length = ps.length
  run : ∀ (A : Around) (outer : List PySem.Env) (s : Shared) (H : Hp) (args : Args) (us : List Value) (vs : List V) (Q : VK) (E : XK), L2H.RoomH k A → Env0 P w K mg base A outer s H → BindsTo s fd args (ps.zip us) → Vals vs us → sp vs H Q E →
    codeAny (model P w) A (.call (.ref f) args) (L2.CR (L2.CX P w) outer P w H s Q E) s
section
variable {P : Program} {w : World} {K : PySem.W.Frag} {mg : Str → Option Value} {base : Heap} {x qual : Str} {params : Arguments} {body : List Stmt} {scope : Scope} {f : Addr} {fd : FuncData} {N ps : List Str} {k n : Nat} {Φ : Nat → List LV → CR} {sp : Sp}
structure BG (X : Cx) (C : Cb) (W : WX) (k : Nat) : Prop where
  o : XO X C
  tk : Takes X W
  room : L2H.RoomH k X.A
def OkG (P : Program) (w : World) (K : PySem.W.Frag) (mg : Str → Option Value) (base : Heap) (k : Nat) (x : Str) (ps : List Str) (g : List LV → CR) : Prop :=
  ∃ fd, FnG P w K mg base k (He.ga K x) fd ps (spOf K g) ∧ PySem.W.keepIn K (.ref (He.ga K x)) = true ∧ Binds K fd ps [] ∧ mg x = some (.ref (He.ga K x))
theorem OkG.up {j : Nat} {g : List LV → CR} (h : OkG P w K mg base j x ps g) (hjk : j ≤ k) : OkG P w K mg base k x ps g := by
  obtain ⟨fd, h1, h2⟩ := h
  exact ⟨fd, ⟨h1.len, fun A outer s H args us vs Q E hr => h1.run A outer s H args us vs Q E (hr.mono hjk)⟩, h2⟩
end
section
variable {C : Cb} {Φ : Nat → List LV → CR} {W : WX} {X : Cx} {e : Expr} {es : List Expr} {pos p : Pos} {x : Str} {k j : Nat} {ps : List Str} {irs : List Arg}
end
end Br
set_option maxHeartbeats 1000000
/-! BrW1: instances of own classes: made, and their methods called. -/
namespace Br
open PySem PySem.Spec PyProof.Rows L2
/-- what an instance is may be changed as a whole -/
theorem SR.open {C : Cb} {F H : Hp} {ρ : Env} {σ : L2.St} (s : SR C F ρ σ H) {i : Nat} {l : LV} (hi : ρ[i]? = some (some l)) : ∃ (v : V) (fi : List Addr), σ[i]? = some (some v) ∧ RepL C.K F H l v fi ∧ fi.Nodup ∧ (∀ a ∈ fi, F a = none ∧ C.O a) ∧
    ∀ (H' : Hp) (l' : LV) (fi' : List Addr), (∀ a o, a ∉ fi → H a = some o → H' a = some o) → RepL C.K F H' l' v fi' → fi'.Nodup → (∀ a ∈ fi', a ∈ fi ∨ H a = none) → SR C F (ρ.set i (some l')) σ H' := by
  obtain ⟨fp, h1, h2⟩ := s.own
  obtain ⟨v, hv, r, nd, q⟩ := h1 i l hi
  refine ⟨v, fp i, hv, r, nd, q, fun H' l' fi' hk r' nd' hf => ?_⟩
  have hil : i < ρ.length := (List.getElem?_eq_some_iff.mp hi).1
  refine ⟨fun b u e => ?_, s.f0, fun a o h0 ha => ?_, s.fo, by rw [List.length_set]; exact s.len, fun j => if j = i then fi' else fp j, fun j m hm => ?_, fun j k m m' hjk hm hm' a ha => ?_⟩
  · refine hk b u (fun hb => ?_) (s.le b u e)
    rw [(q b hb).1] at e
    cases e
  · have e := s.keep a o h0 ha
    refine hk a o (fun hb => ?_) e
    rcases (q a hb).2 with z | z | ⟨xs, z⟩
    · exact ha z
    · rw [z] at h0; cases h0
    · rw [z] at h0
      cases h0
      exact r.noTup a hb xs e
  · by_cases hj : j = i
    · subst hj
      rw [List.getElem?_set_self hil] at hm
      cases hm
      dsimp only
      rw [if_pos rfl]
      refine ⟨v, hv, r', nd', fun a ha => ?_⟩
      rcases hf a ha with z | z
      · exact q a z
      · exact ⟨s.fnone z, s.fresh z⟩
    · rw [List.getElem?_set_ne (fun z => hj z.symm)] at hm
      dsimp only
      rw [if_neg hj]
      obtain ⟨w, hw, rw', ndw, qw⟩ := h1 j m hm
      refine ⟨w, hw, rw'.frame (Same.refl F) fun a ha => ?_, ndw, qw⟩
      obtain ⟨o, ho⟩ := rw'.there a ha
      rw [hk a o (fun z => h2 j i m l hj hm hi a ha z) ho, ho]
  · dsimp only at ha ⊢
    by_cases hj : j = i
    · have hki : ¬ k = i := fun z => hjk (hj.trans z.symm)
      rw [if_pos hj] at ha
      rw [if_neg hki]
      rw [List.getElem?_set_ne (fun z => hki z.symm)] at hm'
      intro hb
      rcases hf a ha with z | z
      · exact h2 i k l m' (fun z => hki z.symm) hi hm' a z hb
      · obtain ⟨w, hw, rw', ndw, qw⟩ := h1 k m' hm'
        obtain ⟨o, ho⟩ := rw'.there a hb
        rw [z] at ho
        cases ho
    · rw [if_neg hj] at ha
      rw [List.getElem?_set_ne (fun z => hj z.symm)] at hm
      by_cases hki : k = i
      · rw [if_pos hki]
        intro hb
        rcases hf a hb with z | z
        · exact h2 j i m l hj hm hi a ha z
        · obtain ⟨w, hw, rw', ndw, qw⟩ := h1 j m hm
          obtain ⟨o, ho⟩ := rw'.there a ha
          rw [z] at ho
          cases ho
      · rw [if_neg hki]
        rw [List.getElem?_set_ne (fun z => hki z.symm)] at hm'
        exact h2 j k m m' hjk hm hm' a ha
section
variable {C : Cb} {Φ : Nat → List LV → CR} {W : WX} {X : Cx} {e o : Expr} {es : List Expr} {pos p apos : Pos} {x m c : Str} {j i k kk : Nat} {irs : List Arg} {ps : List Str} {ns : List Str} {f Cl : Addr} {fd : FuncData} {sp : Sp} {ta : TE} {t : TA}
end
end Br
set_option maxHeartbeats 1000000
/-! BrW2: attributes of an instance: read, stored, appended to. -/
namespace Br
open PySem PySem.Spec PyProof.Rows L2
section
variable {K : PySem.W.Frag} {F H : Hp}
theorem RepLs.at : ∀ {ls : List LV} {vs : List V} {fr : List Addr} {k : Nat} {l : LV}, RepLs K F H ls vs fr → ls[k]? = some l → ∃ v fl, vs[k]? = some v ∧ RepL K F H l v fl ∧ ∀ a ∈ fl, a ∈ fr
  | [], vs, fr, k, l, h, e => by simp at e
  | m :: ls, vs, fr, k, l, h, e => by
    obtain ⟨v, r, f1, f2, rfl, h1, h2, rfl⟩ := h
    cases k with
    | zero =>
      simp at e
      subst e
      exact ⟨v, f1, rfl, h1, fun a ha => by simp [ha]⟩
    | succ k =>
      obtain ⟨w, fl, e1, e2, e3⟩ := RepLs.at h2 (k := k) (by simpa using e)
      exact ⟨w, fl, by simpa using e1, e2, fun a ha => by simp [e3 a ha]⟩
theorem RepLs.set : ∀ {ls : List LV} {vs : List V} {fr : List Addr} {k : Nat} {l : LV} {y : V} {fl : List Addr}, RepLs K F H ls vs fr → k < ls.length → RepL K F H l y fl → (fr ++ fl).Nodup →
    ∃ fr', RepLs K F H (ls.set k l) (vs.set k y) fr' ∧ (∀ a ∈ fr', a ∈ fr ∨ a ∈ fl) ∧ fr'.Nodup
  | [], vs, fr, k, l, y, fl, h, hk, r, nd => by simp at hk
  | m :: ls, vs, fr, k, l, y, fl, h, hk, r, nd => by
    obtain ⟨v, rr, f1, f2, rfl, h1, h2, rfl⟩ := h
    cases k with
    | zero =>
      refine ⟨fl ++ f2, ⟨y, rr, fl, f2, rfl, r, h2, rfl⟩, fun a ha => ?_, ?_⟩
      · rcases List.mem_append.mp ha with z | z
        · exact .inr z
        · exact .inl (by simp [z])
      · have q1 := (List.nodup_append.mp nd)
        have q2 := List.nodup_append.mp q1.1
        refine List.nodup_append.mpr ⟨q1.2.1, q2.2.1, fun a ha b hb => ?_⟩
        exact fun z => q1.2.2 b (by simp [hb]) a ha z.symm
    | succ k =>
      have q1 := List.nodup_append.mp nd
      have q2 := List.nodup_append.mp q1.1
      obtain ⟨fr', e1, e2, e3⟩ := RepLs.set h2 (k := k) (by simpa using hk) r (List.nodup_append.mpr ⟨q2.2.1, q1.2.1, fun a ha b hb => q1.2.2 a (by simp [ha]) b hb⟩)
      refine ⟨f1 ++ fr', ⟨v, rr.set k y, f1, fr', rfl, h1, e1, rfl⟩, fun a ha => ?_, ?_⟩
      · rcases List.mem_append.mp ha with z | z
        · exact .inl (by simp [z])
        · rcases e2 a z with z | z
          · exact .inl (by simp [z])
          · exact .inr z
      · refine List.nodup_append.mpr ⟨q2.1, e3, fun a ha b hb => ?_⟩
        rcases e2 b hb with z | z
        · exact q2.2.2 a ha b z
        · exact q1.2.2 a (by simp [ha]) b z
theorem RepLs.snoc : ∀ {ls : List LV} {vs : List V} {fr : List Addr} {l : LV} {y : V} {fl : List Addr}, RepLs K F H ls vs fr → RepL K F H l y fl → RepLs K F H (ls ++ [l]) (vs ++ [y]) (fr ++ fl)
  | [], vs, fr, l, y, fl, h, r => by
    obtain ⟨rfl, rfl⟩ := h
    exact ⟨y, [], fl, [], rfl, r, ⟨rfl, rfl⟩, by simp⟩
  | m :: ls, vs, fr, l, y, fl, h, r => by
    obtain ⟨v, rr, f1, f2, rfl, h1, h2, rfl⟩ := h
    exact ⟨v, rr ++ [y], f1, f2 ++ fl, rfl, h1, h2.snoc r, by simp⟩
/-- an own list among attributes is written -/
theorem RepLs.write : ∀ {ls : List LV} {vs : List V} {fr : List Addr} {k : Nat} {l : List PV} {q : PV} {y : V}, RepLs K F H ls vs fr → fr.Nodup → ls[k]? = some (.own (.lst l)) → Rep K F q y →
    ∃ p xs, vs[k]? = some (.ref p) ∧ p ∈ fr ∧ H p = some (.lst xs) ∧ xs.length = l.length ∧ RepLs K F (upd H p (.lst (xs ++ [y]))) (ls.set k (.own (.lst (l ++ [q])))) vs fr
  | [], vs, fr, k, l, q, y, h, nd, e, r => by simp at e
  | m :: ls, vs, fr, k, l, q, y, h, nd, e, r => by
    obtain ⟨v, rr, f1, f2, rfl, h1, h2, rfl⟩ := h
    have q1 := List.nodup_append.mp nd
    cases k with
    | zero =>
      simp at e
      subst e
      obtain ⟨p, rfl, ⟨xs, hp, rx⟩, rfl⟩ := h1
      refine ⟨p, xs, rfl, by simp, hp, rx.length.symm, .ref p, rr, [p], f2, rfl, ⟨p, rfl, ⟨xs ++ [y], upd_same, rx.append (.cons r .nil)⟩, rfl⟩, h2.frame (Same.refl F) fun a ha => ?_, rfl⟩
      exact upd_ne fun z => q1.2.2 p (by simp) a ha z.symm
    | succ k =>
      obtain ⟨p, xs, e1, e2, e3, e4, e5⟩ := RepLs.write h2 q1.2.1 (k := k) (by simpa using e) r
      refine ⟨p, xs, by simpa using e1, by simp [e2], e3, e4, v, rr, f1, f2, rfl, h1.frame (Same.refl F) fun a ha => ?_, e5, rfl⟩
      exact upd_ne fun z => q1.2.2 a ha p e2 z
end
section
variable {C : Cb} {F H : Hp} {ρ : Env} {σ : L2.St} {i : Nat} {c : Str} {ns : List Str} {ls : List LV}
end
section
variable {C : Cb} {Φ : Nat → List LV → CR} {W : WX} {pr : List Nat} {n : Nat} {X : Cx} {e value : Expr} {es : List Expr} {pos pos' p p2 : Pos} {x y f g c : Str} {ns : List Str} {i j k kg : Nat} {o : Op} {ir : Ex}
theorem ResR.grow {K : PySem.W.Frag} {F H : Hp} {nw : Bool} {r : PV} {v : V} {H' : Hp} (h : ResR K F H nw r v H') : ∀ b u, H b = some u → H' b = some u := fun b u e => by
  rcases h with ⟨rfl, h, _⟩ | ⟨a, o, n, rfl, rfl, h⟩ | ⟨a, xs, l, n, rfl, rfl, rfl, h⟩ | ⟨a, xs, o, l, n, rfl, rfl, hd, rfl, h⟩ | ⟨a, ys, l, n, rfl, rfl, rfl, hk, h⟩ | ⟨a, o, c, n, rfl, rfl, rfl, h⟩
  · exact e
  all_goals
    rw [upd_ne (ne_of_none e n)]
    exact e
end
section
variable {P : Program} {w : World} {K : PySem.W.Frag} {mg : Str → Option Value} {base : Heap} {c m qual : Str} {st : Stmt} {N ps : List Str} {k n : Nat} {Φ : Nat → List LV → CR} {f : Addr}
end
end Br
set_option maxHeartbeats 1000000
/-! BrY1: methods that read alone; attributes that are lists, written item by item. -/
namespace Br
open PySem PySem.Spec PyProof.Rows L2
section
variable {C : Cb} {Φ : Nat → List LV → CR} {W : WX} {pr : List Nat} {n : Nat} {X : Cx} {e value : Expr} {es : List Expr} {pos pos' p p2 : Pos} {x y f g c m : Str} {ns ps : List Str} {i j k kk : Nat} {ir : Ex} {irs : List Arg}
/-! ### a call of a method that reads alone -/
/-! ### an attribute's list is written -/
end
end Br
set_option maxHeartbeats 1000000
/-! BrY2: tuples of ints among the module's names. -/
namespace Br
open PySem PySem.Spec PyProof.Rows L2
section
variable {C : Cb} {Φ : Nat → List LV → CR} {W : WX} {X : Cx} {p : Pos} {x : Str}
end
section
variable {C : Cb} {Φ : Nat → List LV → CR} {W : WX} {X : Cx} {pos p : Pos} {a b c : Expr} {ia ib ic : Arg}
theorem pl2 (he2 : starEach [b, c] X.env = (false, eval b X.env) :: starEach [c] X.env) (he3 : starEach [c] X.env = (false, eval c X.env) :: starEach [] X.env) : (backTo pos (starEach [b, c] X.env)).any (·.1) = false := by rw [he2, he3]; rfl
end
end Br
set_option maxHeartbeats 4000000
/-! BrT1: tuples whose object is known; dict of pairs. -/
namespace Br
open PySem PySem.Spec PyProof.Rows L2
section
variable {X : Cx}
end

/-! ### what dict() makes of pairs -/
section
variable {X : Cx}
end
section
variable {C : Cb} {Φ : Nat → List LV → CR} {W : WX} {X : Cx} {a : Expr} {ia : Arg} {pos p : Pos}
end
end Br
set_option maxHeartbeats 2000000
/-! BrU1: dicts whose keys are tuples. -/
namespace Br
open PySem PySem.Spec PyProof.Rows L2
section
variable {C : Cb} {Φ : Nat → List LV → CR} {W : WX} {X : Cx} {a b c e : Expr} {es : List Expr} {pos p : Pos} {x : Str} {ia ib ic : Arg}
end
end Br
set_option maxHeartbeats 2000000
/-! BrU2: sorted(d), d's keys tuples. -/
namespace Br
open PySem PySem.Spec PyProof.Rows L2
section
variable {X : Cx}
end
end Br
namespace Br
open PySem PySem.Spec PyProof.Rows L2
section
variable {C : Cb} {Φ : Nat → List LV → CR} {W : WX} {X : Cx} {a b c e : Expr} {es : List Expr} {pos p : Pos} {x : Str} {ia ib ic : Arg}
end
end Br
set_option maxHeartbeats 2000000
/-! BrV1: str(data) where nothing is under way; list(d.values()), sum(d.values()). -/
namespace Br
open PySem PySem.Spec PyProof.Rows L2
section
variable {X : Cx}
end
section
variable {X : Cx} {e : Expr} {te : TE} {p apos cpos pos : Pos}
end
section
variable {C : Cb} {Φ : Nat → List LV → CR} {W : WX} {X : Cx} {a b c e : Expr} {es : List Expr} {pos p : Pos} {x : Str} {ia ib ic : Arg}
end
end Br
set_option maxHeartbeats 2000000
/-! BrV2: a comprehension over a dict of our own, locked as long as it is walked. -/
namespace Br
open PySem PySem.Spec PyProof.Rows L2
section
variable {C : Cb} {Φ : Nat → List LV → CR} {W : WX} {X : Cx} {tg elt : Expr} {ifs : List Expr} {pos p : Pos} {x : Str} {scope : Scope}
end
end Br
set_option maxHeartbeats 2000000
/-! BrV3: sum(d.values()), min(d.values(), default=0), min(t, default=0). -/
namespace Br
open PySem PySem.Spec PyProof.Rows L2
section
variable {X : Cx} {e : Expr} {te : TE} {p apos cpos pos : Pos}
end
section
variable {C : Cb} {Φ : Nat → List LV → CR} {W : WX} {X : Cx} {a b c e : Expr} {es : List Expr} {pos p : Pos} {x : Str} {ia ib ic : Arg}
theorem ResR.xt {K : PySem.W.Frag} {F H : Hp} {nw : Bool} {l : List PV} {xs : List V} {a : Addr} {o : Obj} (n : H a = none) (hd : o.dict = none) (r : Reps K F l xs) : ResR K F H nw (.xt l) (.ref a) (upd H a (.frz o (.tup xs))) := .inr (.inr (.inr (.inl ⟨a, xs, o, l, n, rfl, rfl, hd, rfl, r⟩)))
end
end Br
set_option maxHeartbeats 2000000
/-! BrV4: {a: b}. -/
namespace Br
open PySem PySem.Spec PyProof.Rows L2
section
variable {C : Cb} {Φ : Nat → List LV → CR} {W : WX} {X : Cx} {ek ev : Expr} {pos : Pos}
/-! d.pop(k) -/
end
section
open L2
variable {C : Cb} {Φ : Nat → List LV → CR} {W : WX} {X : Cx} {e : Expr} {ta : TE} {pos p : Pos} {x : Str} {ia : Arg}
theorem ResR.exc {K : PySem.W.Frag} {F H : Hp} {nw : Bool} {c : Str} {a : Addr} {o : HO} (n : H a = none) (h : ∀ F' : Hp, F' a = some o → ExcR K F' c (.ref a)) : ResR K F H nw (.exc c) (.ref a) (upd H a o) := .inr (.inr (.inr (.inr (.inr ⟨a, o, c, n, rfl, rfl, rfl, h⟩))))
/-- X(e), an own refusal as a value -/
theorem pe_excN (q : Xn X.K X.mg x) (hg : Gl X x) (he : PE X e ta) (hs : starEach [e] X.env = (false, eval e X.env) :: starEach [] X.env := by rfl) (hdb : (x == ("__debug__" : Str)) = false := by decide) :
    PE X (.Call (.Name x p) [e] [] pos) (fun σ H Q => ta σ H fun _ H1 => ∀ a o, H1 a = none → (∀ F' : Hp, F' a = some o → ExcR X.K F' x (.ref a)) → Q (.ref a) (upd H1 a o)) := by
  obtain ⟨q0, kC, _, _, gC⟩ := q
  refine ⟨fun pins s σ H Q I h => ?_⟩
  refine wpAny_Call_Name_kw (ld_glob I hg gC ?_ hdb)
  refine PySem.W.callWith_K (h₀ := X.base) I.ok.mod.kin kC ?_ hs (by rfl)
  rw [hs]
  show wpAny _ _ (spliced ((false, eval e X.env) :: backTo pos (starEach [] X.env))) _ _ s
  refine Calls.spliced_cons (thn (he.run pins s σ H _ I h) fun u s1 ⟨v, H1, I1, r1, q1⟩ => ?_)
  refine Calls.spliced_nil ⟨I1.kIn, ?_⟩
  show wpAny _ _ (call (.ref (He.ga X.K x)) [u]) _ _ _
  obtain ⟨bm, N, nm, qn, bs, hdct, sn, sub, ab, col, dd, k0, k1, k2, k3, k5, mN, hC, hN, hni, T⟩ := exc_obj I1.kIn q0
  refine wpAny_call_exc_subT PySem.F.excBase_ValueError T hC hN hni (fun h' a hm => ?_) (by show 1 ≤ sizeLine; rw [sizeLine_eq]; omega)
  have hn : H1 a = none := I1.hok.gone hm.new
  obtain ⟨t, ht, _, _⟩ := hm.there
  obtain ⟨oe, ho, hz, vs, hd⟩ : ∃ oe : Obj, h'.get? a = some oe ∧ Zc (.ref (He.ga X.K x)) none oe ∧ ∃ vs, oe.data = .fields vs := ⟨_, ht, ⟨rfl, rfl⟩, _, rfl⟩
  refine ⟨.ref a, _, I1.laidN hm.keeps hm.new hn (o := .ext fun h => h.get? a = some oe) ⟨ho, ⟨_, ho⟩, fun _ _ q k => k _ q⟩, rfl, q1 a _ hn fun F' hF => ?_⟩
  exact ⟨a, oe, vs, rfl, hF, hz, hd⟩
theorem o_mkX (o : XO X C) (q : Xn X.K X.mg x) (hg : Gl X x) (ha : PE X e (tA1 C Φ W ia)) (hs : starEach [e] X.env = (false, eval e X.env) :: starEach [] X.env := by rfl) (hdb : (x == ("__debug__" : Str)) = false := by decide) :
    PE X (.Call (.Name x p) [e] [] pos) (tO C Φ W (.mkX x) [ia]) :=
  (pe_excN q hg ha hs hdb).weak fun σ H Q q => (tO_1 q).imp fun y H1 k => by
    obtain ⟨F, t, r, e, h1, ho, q⟩ := rOp_1 k
    cases ho
    intro a ob n hx
    exact q _ _ (ResR.exc n (by rw [o.K]; exact hx))
end
end Br
set_option maxHeartbeats 4000000
/-! BrQ1: sorted(set(x)), x a list of ints. -/
namespace Br
open PySem PySem.Spec PyProof.Rows L2
section
variable {P : Program} {w : World} {A : Around} {E : Value → Shared → Prop} {s : Shared}
end
section
variable {X : Cx} {pins : List (Addr × Obj)} {s : Shared} {σ : L2.St} {H : Hp} {Q : VK}
end
section
variable {X : Cx} {e : Expr} {te : TE} {p p2 q2 pos : Pos}
end
section
variable {C : Cb} {Φ : Nat → List LV → CR} {W : WX} {X : Cx} {a : Expr} {ia : Arg} {p p2 q2 pos : Pos}
end
end Br
set_option maxHeartbeats 4000000
/-! BrQ2: dict of pairs, the keys tuples. -/
namespace Br
open PySem PySem.Spec PyProof.Rows L2
section
variable {X : Cx}
theorem KT.is {pins : List (Addr × Obj)} {σ : L2.St} {H : Hp} {s : Shared} (I : L2.Inv X pins σ H s) {kvs : List (List Key × V)} {xs : List (List Key × Addr × Value)} (r : KT H kvs xs) : ∀ x ∈ xs, (tupleKind (mixKind X.prog X.w)).is s.heap x.1 x.2.1 := by
  induction r with
  | nil => intro x hx; exact nomatch hx
  | @cons p q ps qs hq t ih =>
    intro x hx
    rcases List.mem_cons.mp hx with e | hx
    · subst e
      exact key_of I.hok (by rw [← hq.1]; exact hq.2.1)
    · exact ih x hx
end
section
variable {X : Cx}
end
section
variable {C : Cb} {Φ : Nat → List LV → CR} {W : WX} {X : Cx} {a : Expr} {ia : Arg} {pos p : Pos}
end
end Br
set_option maxHeartbeats 4000000
/-! BrQ3: sorted(set(x)), x a list of tuples of ints; len(set(x)), x a list of ints. -/
namespace Br
open PySem PySem.Spec PyProof.Rows L2
section
variable {X : Cx} {pins : List (Addr × Obj)} {s : Shared} {σ : L2.St} {H : Hp} {Q : VK}
end
section
variable {X : Cx} {e : Expr} {te : TE} {p p2 q2 pos : Pos}
end
section
variable {C : Cb} {Φ : Nat → List LV → CR} {W : WX} {X : Cx} {a : Expr} {ia : Arg} {p p2 q2 pos : Pos}
end
end Br
namespace Br
open PySem PySem.Spec PyProof.Rows L2
section
variable {C : Cb} {Φ : Nat → List LV → CR} {W : WX} {X : Cx} {a b c d : Expr} {pos : Pos}
end
end Br
set_option maxHeartbeats 4000000
/-! BrQ4: texts: join, split, strip, int of a text, a sign of a text, the signs of a text. -/
namespace Br
open PySem PySem.Spec PyProof.Rows L2
theorem strsOf_eq : ∀ {l : List PV} {ys : List Str}, strsOf l = some ys → l = ys.map PV.str
  | [], _, h => by cases h; rfl
  | p :: l, ys, h => by
    cases p with
    | str x =>
      obtain ⟨r, h1, rfl⟩ := Option.map_eq_some_iff.mp (show (strsOf l).map (x :: ·) = some ys from h)
      rw [strsOf_eq h1]
      rfl
    | _ => cases h
theorem Reps.strs {K : PySem.W.Frag} {F : Hp} : ∀ {ys : List Str} {xs : List V}, Reps K F (ys.map PV.str) xs → xs = ys.map V.str
  | [], _, h => h
  | y :: ys, _, h => by
    obtain ⟨v, xs', rfl, h1, h2⟩ := h
    rw [Reps.strs h2, show v = V.str y from h1]
    rfl
section
variable {C : Cb} {Φ : Nat → List LV → CR} {W : WX} {X : Cx} {a b c e tg : Expr} {es : List Expr} {pos p : Pos} {x : Str} {ia ib ic : Arg}
theorem tM_str {op : Op} {r : V → List V → Hp → VK → Prop} (hr : ∀ p, recvOk op (some p) = true → ∃ x, p = .str x)
    (hq : ∀ x y H Q, rOp C.K op [x, y] H Q → r x [y] H Q) {σ : L2.St} {H : Hp} {Q : VK} (q : tM C Φ W op ia [ib] σ H Q) : tM1 r (tA1 C Φ W ia) (tA1 C Φ W ib) σ H Q := by
  refine tA1.imp q fun x H1 k => ?_
  obtain ⟨⟨F, p, e, hrc, hp⟩, k⟩ := k
  obtain ⟨z, rfl⟩ := hr p hrc
  refine ⟨⟨z, hp⟩, ?_⟩
  have k2 : tA1 C Φ W ib σ H1 fun v H2 => tAs C Φ W [] σ H2 fun vs H3 => rOp C.K op (x :: v :: vs) H3 Q := tAs_cons k
  exact tA1.imp k2 fun v H2 k3 => hq _ _ _ _ (tAs_nil k3)
theorem m_join (o : XO X C) {apos cpos : Pos} (ha : PE X a (tA1 C Φ W ia)) (hb : PE X b (tA1 C Φ W ib)) (hs : starEach [b] X.env = [(false, eval b X.env)] := by rfl)
    (hbase : attributeBase a "join" X.env (eval a X.env) = eval a X.env := by rfl) (hline : (apos.endLine == cpos.line) = true := by rfl) :
    PE X (.Call (.Attribute a "join" apos) [b] [] cpos) (tM C Φ W .join ia [ib]) :=
  (pe_join ha hb hs hbase hline).weak fun σ H Q q => by
    refine tM_str (fun p hp => by cases p <;> first | exact ⟨_, rfl⟩ | cases hp) (fun x y H Q h => ?_) q
    obtain ⟨F, p, t, r, e, h1, h2, ho, q⟩ := rOp_2 h
    cases p with
    | str z =>
      cases t with
      | lst l =>
        obtain ⟨ys, hy, ho⟩ := Option.bind_eq_some_iff.mp (show (strsOf l).bind (fun ys => if (ys.map (·.length)).sum + ys.length * z.length ≤ LIM then some (PV.str (Txt.join z ys)) else none) = some r from ho)
        split at ho
        · rename_i hl
          cases ho
          rw [strsOf_eq hy] at h2
          obtain ⟨c, xs, rfl, hc, rc⟩ := h2
          rw [rc.strs] at hc
          refine ⟨z, c, ys, h1, rfl, .inl (o.K ▸ hc.sql), ?_, q _ _ .str⟩
          unfold LIM at hl
          omega
        · cases ho
      | _ => cases ho
    | _ => cases ho
theorem ir_idxS : IxR X (R2of X.K .idxS) := by
  refine IxR.imp ix_str fun x y H Q h => ?_
  obtain ⟨F, p, t, r, e, h1, h2, ho, q⟩ := rOp_2 h
  cases p with
  | str z =>
    cases t with
    | int i =>
      have ho : (if z.length ≤ LIM then (L2.atI z.cps.toList i).map (fun c => PV.str ⟨#[c]⟩) else none) = some r := ho
      split at ho
      · rename_i hl
        obtain ⟨c, hc, rfl⟩ := Option.map_eq_some_iff.mp ho
        exact ⟨z, i, c, h1, h2, lim_line hl, hc, q _ _ .str⟩
      · cases ho
    | _ => cases ho
  | _ => cases ho
theorem o_ixS (o : XO X C) (ha : PE X a (tA1 C Φ W ia)) (hb : PE X b (tA1 C Φ W ib)) (hs : PlainIx b := by intro _ _; rfl) : PE X (.Subscript a b pos) (tO C Φ W .idxS [ia, ib]) :=
  (pe_ix ir_idxS ha hb hs).weak fun _ _ _ q => by rw [← o.K]; exact tO_2 q
end
section
variable {fa : List He.Fa} {fn : List He.DefD} {K : PySem.W.Frag} {h : Heap} {mg : Str → Option Value}
end
end Br
set_option maxHeartbeats 1000000
/-! BrP: laws of the evaluator, for proofs about what a def computes. -/
namespace Br
open PySem PySem.Spec PyProof.Rows L2

/-! evaluation in order: what stands behind waits, by names -/
def ifE {α : Type} (t : Bool) (f g : Env → ER α) (ρ : Env) : ER α := match t with
  | true => f ρ
  | false => g ρ
theorem ifE_t {α : Type} (f g : Env → ER α) (ρ : Env) : ifE true f g ρ = f ρ := rfl
theorem ifE_f {α : Type} (f g : Env → ER α) (ρ : Env) : ifE false f g ρ = g ρ := rfl
def ifS (t : Bool) (f g : Env → SO) (ρ : Env) : SO := match t with
  | true => f ρ
  | false => g ρ
theorem ifS_t (f g : Env → SO) (ρ : Env) : ifS true f g ρ = f ρ := rfl
theorem ifS_f (f g : Env → SO) (ρ : Env) : ifS false f g ρ = g ρ := rfl
def okE {α : Type} (a : α) (ρ : Env) : ER α := .ok a ρ
theorem okE_eq {α : Type} (a : α) (ρ : Env) : okE a ρ = .ok a ρ := rfl
section
variable (Φ : Nat → List LV → CR) (n : Nat)
def kOp (o : Op) (avs : List AV) (ρ : Env) : ER PV := ER.of ((AV.pvs ρ avs).bind (opX o)) ρ
def kVal (p : PV) (ρ : Env) : ER AV := .ok (.val p) ρ
def kCons (av : AV) (avs : List AV) (ρ : Env) : ER (List AV) := .ok (av :: avs) ρ
def kAs (as : List Arg) (av : AV) (ρ : Env) : ER (List AV) := (evAs Φ as ρ).bind (kCons av)
def kConsE (p : PV) (ps : List PV) (ρ : Env) : ER (List PV) := .ok (p :: ps) ρ
def kEs (es : List Ex) (p : PV) (ρ : Env) : ER (List PV) := (evEs Φ es ρ).bind (kConsE p)
def kTup (ps : List PV) (ρ : Env) : ER PV := if ps.length ≤ LIM then .ok (.tup ps) ρ else .st
def kLst (ps : List PV) (ρ : Env) : ER PV := if ps.length ≤ LIM then .ok (.lst ps) ρ else .st
def kCall (j : Nat) (avs : List AV) (ρ : Env) : ER PV := froE (callE (Φ j) avs ρ)
def kMth2 (o : Op) (av : AV) (avs : List AV) (ρ : Env) : ER PV := ER.of ((AV.pvs ρ (av :: avs)).bind (opSem o)) ρ
def kMth (o : Op) (as : List Arg) (av : AV) (ρ : Env) : ER PV := if recvOk o (av.pv ρ) = true then (evAs Φ as ρ).bind (kMth2 o av) else .st
def kAnd (b : Ex) (p : PV) (ρ : Env) : ER PV := match p with
  | .bl t => ifE t (evE Φ b) (okE (.bl false)) ρ
  | _ => .st
def kOr (b : Ex) (p : PV) (ρ : Env) : ER PV := match p with
  | .bl t => ifE t (okE (.bl true)) (evE Φ b) ρ
  | _ => .st
def kNot (p : PV) (ρ : Env) : ER PV := match p with
  | .bl t => .ok (.bl (!t)) ρ
  | _ => .st
def kIte (a b : Ex) (t : Bool) (ρ : Env) : ER PV := ifE t (evE Φ a) (evE Φ b) ρ
def kCh4 (o2 : Op) (q r : PV) (ρ : Env) : ER PV := ER.of (opSem o2 [q, r]) ρ
def kCh3 (o2 : Op) (c : Ex) (q : PV) (ρ : Env) : ER PV := (evE Φ c ρ).bind (kCh4 o2 q)
def kCh2b (o2 : Op) (c : Ex) (q : PV) (r : Option PV) (ρ : Env) : ER PV := match r with
  | some (.bl t) => ifE t (kCh3 Φ o2 c q) (okE (.bl false)) ρ
  | _ => .st
def kCh2 (o1 o2 : Op) (c : Ex) (p q : PV) (ρ : Env) : ER PV := kCh2b Φ o2 c q (opSem o1 [p, q]) ρ
def kCh1 (o1 o2 : Op) (b c : Ex) (p : PV) (ρ : Env) : ER PV := (evE Φ b ρ).bind (kCh2 Φ o1 o2 c p)
def kCh33 (o2 o3 : Op) (c d : Ex) (q : PV) (ρ : Env) : ER PV := (evE Φ c ρ).bind (kCh2 Φ o2 o3 d q)
def kCh32b (o2 o3 : Op) (c d : Ex) (q : PV) (r : Option PV) (ρ : Env) : ER PV := match r with
  | some (.bl t) => ifE t (kCh33 Φ o2 o3 c d q) (okE (.bl false)) ρ
  | _ => .st
def kCh32 (o1 o2 o3 : Op) (c d : Ex) (p q : PV) (ρ : Env) : ER PV := kCh32b Φ o2 o3 c d q (opSem o1 [p, q]) ρ
def kCh31 (o1 o2 o3 : Op) (b c d : Ex) (p : PV) (ρ : Env) : ER PV := (evE Φ b ρ).bind (kCh32 Φ o1 o2 o3 c d p)
def kS3 (av : AV) (i : Int) (q : PV) (ρ : Env) : ER PV := match q with
  | .int j => ER.of ((av.pv ρ).bind fun x => slcP true true [x, .int i, .int j]) ρ
  | _ => .st
def kS2 (hi : Ex) (av : AV) (p : PV) (ρ : Env) : ER PV := match p with
  | .int i => (evE Φ hi ρ).bind (kS3 av i)
  | _ => .st
def kS1 (lo hi : Ex) (av : AV) (ρ : Env) : ER PV := (evE Φ lo ρ).bind (kS2 Φ hi av)
def kC6 (vs : List Nat) (y : PV) (ρ : Env) : ER (Option PV) := .ok (some y) (wipeE ρ vs)
def kC5 (vs : List Nat) (ρ : Env) : ER (Option PV) := .ok none (wipeE ρ vs)
def kC4 (vs : List Nat) (e : Ex) (ρ : Env) : ER (Option PV) := (evE Φ e ρ).bind (kC6 vs)
def kC3 (vs : List Nat) (e : Ex) (b : Bool) (ρ : Env) : ER (Option PV) := ifE b (kC4 Φ vs e) (kC5 vs) ρ
def kC0 (c : List Tst) (vs : List Nat) (e : Ex) (r : Option Env) : ER (Option PV) := match r with
  | some ρ => (evTs Φ c ρ).bind (kC3 Φ vs e)
  | none => .st
def cF (t : Tg) (vs : List Nat) (c : List Tst) (e : Ex) (x : PV) (ρ : Env) : ER (Option PV) := kC0 Φ c vs e (t.bind x ρ)
def kC2 (ρ1 : Env) (vs : List Nat) (ys : List PV) (ρ6 : Env) : ER PV := .ok (.lst ys) (backE ρ1 ρ6 vs)
def kC1 (t : Tg) (vs : List Nat) (c : List Tst) (e : Ex) (xs : List PV) (ρ1 : Env) : ER PV := if xs.length ≤ LIM then (compL (cF Φ t vs c e) xs (wipeE ρ1 vs)).bind (kC2 ρ1 vs) else .st
def kTand (b : Tst) (t : Bool) (ρ : Env) : ER Bool := ifE t (evT Φ b) (okE false) ρ
def kTor (b : Tst) (t : Bool) (ρ : Env) : ER Bool := ifE t (okE true) (evT Φ b) ρ
def kTnot (t : Bool) (ρ : Env) : ER Bool := .ok (!t) ρ
def kTe (p : PV) (ρ : Env) : ER Bool := match p with
  | .bl b => .ok b ρ
  | _ => .st
def kSeq (p : PV) (ρ : Env) : ER (List PV) := ER.of (seqOf p) ρ
def kR1 (p : PV) (ρ : Env) : ER (List PV) := match p with
  | .int j => if rngOk j then .ok (rngP 0 j) ρ else .st
  | _ => .st
def kR3 (p q : PV) (ρ : Env) : ER (List PV) := match p, q with
  | .int i, .int j => if rngOk i ∧ rngOk j then .ok (rngP i j) ρ else .st
  | _, _ => .st
def kSeqS (p : PV) (ρ : Env) : ER (List PV) := match p with
  | .str x => .ok (signsP x) ρ
  | _ => .st
def kR2 (b : Ex) (p : PV) (ρ : Env) : ER (List PV) := (evE Φ b ρ).bind (kR3 p)
def kEn (p : PV) (ρ : Env) : ER (List PV) := match p with
  | .lst l => .ok (enumP l) ρ
  | .tup l => .ok (enumP l) ρ
  | .xt l => .ok (enumP l) ρ
  | _ => .st
def kZ2 (p q : PV) (ρ : Env) : ER (List PV) := match p.dn, q.dn with
  | .lst l, .lst m => .ok (zipP l m) ρ
  | .tup l, .tup m => .ok (zipP l m) ρ
  | .lst l, .tup m => .ok (zipP l m) ρ
  | .tup l, .lst m => .ok (zipP l m) ρ
  | _, _ => .st
def kZ1 (b : Ex) (p : PV) (ρ : Env) : ER (List PV) := (evE Φ b ρ).bind (kZ2 p)
def kRv (p : PV) (ρ : Env) : ER (List PV) := ER.of ((seqOf p).map List.reverse) ρ
def kOwn (p : PV) (ρ : Env) : ER LV := .ok (.own p) ρ
def kFro (p : PV) (ρ : Env) : ER LV := .ok (.fro p) ρ
def kOwnV (o : Op) (p : PV) (ρ : Env) : ER LV := .ok (ownV o p) ρ
def kCallL (j : Nat) (avs : List AV) (ρ : Env) : ER LV := callE (Φ j) avs ρ
def kPopE (i : Nat) (p : PV) (ρ : Env) : ER PV := putE i (popP (at' ρ i) p) ρ
def kSet (i : Nat) (l : LV) (ρ : Env) : SO := .nx (ρ.set i (some l))
def kUnp (t : Tg) (p : PV) (ρ : Env) : SO := SO.of (t.bind p ρ)
def kPar (is : List Nat) (ps : List PV) (ρ : Env) : SO := SO.of (parE is ps ρ)
def kSI2 (i : Nat) (p q : PV) (ρ : Env) : SO := match (at' ρ i).bind fun l => setIxP l q p with
  | some l => .nx (ρ.set i (some l))
  | none => .st
def kSI1 (i : Nat) (k : Ex) (p : PV) (ρ : Env) : SO := if (at' ρ i).isSome = true then (evE Φ k ρ).so (kSI2 i p) else .st
def kApp (i : Nat) (p : PV) (ρ : Env) : SO := match at' ρ i with
  | some (.own (.lst l)) => if l.length < LIM then .nx (ρ.set i (some (.own (.lst (l ++ [p]))))) else .st
  | _ => .st
def kExt (i : Nat) (p : PV) (ρ : Env) : SO := match at' ρ i, p with
  | some (.own (.lst l)), .lst m => if l.length + m.length ≤ LIM then .nx (ρ.set i (some (.own (.lst (l ++ m))))) else .st
  | _, _ => .st
def kPopA (i : Nat) (p : PV) (ρ : Env) : SO := match at' ρ i, p with
  | some (.own (.lst l)), .int j => if 0 ≤ j ∧ j < l.length ∧ j < LIM then .nx (ρ.set i (some (.own (.lst (l.eraseIdx j.toNat))))) else .st
  | _, _ => .st
def kIns2 (i : Nat) (q p : PV) (ρ : Env) : SO := match at' ρ i, q with
  | some (.own (.lst l)), .int j => if l.length < LIM ∧ 0 ≤ j ∧ j < LIM then .nx (ρ.set i (some (.own (.lst (l.take j.toNat ++ p :: l.drop j.toNat))))) else .st
  | _, _ => .st
def kIns1 (i : Nat) (e : Ex) (q : PV) (ρ : Env) : SO := (evE Φ e ρ).so (kIns2 i q)
def kEx (_ : PV) (ρ : Env) : SO := .nx ρ
def kRet (l : LV) (ρ : Env) : SO := .rt l ρ
def kIf (a b : List St) (t : Bool) (ρ : Env) : SO := ifS t (exSs Φ n a) (exSs Φ n b) ρ
def kFor (t : Tg) (b : List St) (xs : List PV) (ρ : Env) : SO := forL (bindS (exSs Φ n b) t) xs ρ
def kN2 (j : Nat) (t : Bool) (avs : List AV) (bvs : List AV) (ρ : Env) : ER LV := callT (Φ j) avs (newL t) bvs ρ
def kN1 (j : Nat) (t : Bool) (bs : List Arg) (avs : List AV) (ρ1 : Env) : ER LV := (evAs Φ bs ρ1).bind (kN2 Φ j t avs)
def kT4 (j : Nat) (avs : List AV) (l : LV) (bvs : List AV) (ρ : Env) : ER LV := callT (Φ j) avs l bvs ρ
def kT3 (j : Nat) (avs : List AV) (bs : List Arg) (l : LV) (ρ : Env) : ER LV := (evAs Φ bs ρ).bind (kT4 Φ j avs l)
def kT2 (j k : Nat) (avs : List AV) (bs : List Arg) (cvs : List AV) (ρ : Env) : ER LV := (callE (Φ k) cvs ρ).bind (kT3 Φ j avs bs)
def kT1 (j k : Nat) (cs bs : List Arg) (avs : List AV) (ρ : Env) : ER LV := (evAs Φ cs ρ).bind (kT2 Φ j k avs bs)
variable {Φ n}
theorem v_app (o : Op) (as : List Arg) (ρ : Env) : evE Φ (.app o as) ρ = (evAs Φ as ρ).bind (kOp o) := by rw [evE]; rfl
theorem v_mth (o : Op) (a : Arg) (as : List Arg) (ρ : Env) : evE Φ (.mth o a as) ρ = (evA Φ a ρ).bind (kMth Φ o as) := by rw [evE]; rfl
theorem v_tup (es : List Ex) (ρ : Env) : evE Φ (.tup es) ρ = (evEs Φ es ρ).bind kTup := by rw [evE]; rfl
theorem v_lst (es : List Ex) (ρ : Env) : evE Φ (.lst es) ρ = (evEs Φ es ρ).bind kLst := by rw [evE]; rfl
theorem v_cst (c : PV) (ρ : Env) : evE Φ (.cst c) ρ = .ok c ρ := by rw [evE]
theorem v_dnewT (ρ : Env) : evE Φ .dnewT ρ = .ok (.dT [] []) ρ := by rw [evE]
theorem v_dnewX (ρ : Env) : evE Φ .dnewX ρ = .ok (.dX [] []) ρ := by rw [evE]
theorem v_dnew (ρ : Env) : evE Φ .dnew ρ = .ok (.dK [] []) ρ := by rw [evE]
theorem v_var (i : Nat) (ρ : Env) : evE Φ (.var i) ρ = match ρ[i]? with
    | some (some (.fro p)) => .ok p ρ
    | some (some (.own p)) => .ok p (ρ.set i (some (.fro p)))
    | _ => .st := by rw [evE]; try rfl
theorem putE_some (i : Nat) (x : PV) (l : LV) (ρ : Env) : putE i (some (x, l)) ρ = .ok x (ρ.set i (some l)) := by rw [putE]
theorem putE_none (i : Nat) (ρ : Env) : putE i none ρ = .st := by rw [putE]
theorem kPopE_eq (i : Nat) (p : PV) (ρ : Env) : kPopE i p ρ = putE i (popP (at' ρ i) p) ρ := by rw [kPopE]
theorem v_dispV (i j : Nat) (ρ : Env) : evE Φ (.dispV i j) ρ = ER.of (dispP ρ i j) ρ := by rw [evE]
theorem l_dispV' (i j : Nat) (ρ : Env) : evL Φ (.dispV i j) ρ = (ER.of (dispP ρ i j) ρ).bind kOwn := rfl
def kD2 (p q : PV) (ρ : Env) : ER PV := ER.of ((keyP p).map fun k => .dK [k] [q]) ρ
def kD1 (b : Ex) (p : PV) (ρ : Env) : ER PV := (evE Φ b ρ).calm.bind (kD2 p)
theorem v_disp1 (a b : Ex) (ρ : Env) : evE Φ (.disp1 a b) ρ = (evE Φ a ρ).calm.bind (kD1 (Φ := Φ) b) := by
  rw [evE]
  rfl
theorem l_disp1' (a b : Ex) (ρ : Env) : evL Φ (.disp1 a b) ρ = (evE Φ (.disp1 a b) ρ).bind kOwn := rfl
theorem kD1_eq (b : Ex) (p : PV) (ρ : Env) : kD1 (Φ := Φ) b p ρ = (evE Φ b ρ).calm.bind (kD2 p) := rfl
theorem kD2_i (i : Int) (q : PV) (ρ : Env) : kD2 (.int i) q ρ = .ok (.dK [.inl i] [q]) ρ := rfl
theorem calm_ok {α : Type} (a : α) (ρ : Env) : (ER.ok a ρ).calm = .ok a ρ := rfl
def kPopD (i : Nat) (p : PV) (ρ : Env) : ER PV := putE i (popDP (at' ρ i) p) ρ
theorem kPopD_eq (i : Nat) (p : PV) (ρ : Env) : kPopD i p ρ = putE i (popDP (at' ρ i) p) ρ := by rw [kPopD]
theorem v_popD (i : Nat) (e : Ex) (ρ : Env) : evE Φ (.popD i e) ρ = if ownD ρ i = true then (evE Φ e ρ).bind (kPopD i) else .st := by rw [evE]; rfl
theorem v_popE (i : Nat) (e : Ex) (ρ : Env) : evE Φ (.popE i e) ρ = if ownL ρ i = true then (evE Φ e ρ).bind (kPopE i) else .st := by rw [evE]; rfl
theorem v_popL (i : Nat) (ρ : Env) : evE Φ (.popL i) ρ = putE i (poplP (at' ρ i)) ρ := by rw [evE]
theorem v_call (j : Nat) (as : List Arg) (ρ : Env) : evE Φ (.call j as) ρ = (evAs Φ as ρ).bind (kCall Φ j) := by rw [evE]; rfl
theorem v_and (a b : Ex) (ρ : Env) : evE Φ (.and a b) ρ = (evE Φ a ρ).bind (kAnd Φ b) := by
  rw [evE]; congr 1; funext p ρ; cases p with
  | bl t => cases t <;> rfl
  | _ => rfl
theorem v_or (a b : Ex) (ρ : Env) : evE Φ (.or a b) ρ = (evE Φ a ρ).bind (kOr Φ b) := by
  rw [evE]; congr 1; funext p ρ; cases p with
  | bl t => cases t <;> rfl
  | _ => rfl
theorem v_not (a : Ex) (ρ : Env) : evE Φ (.not a) ρ = (evE Φ a ρ).bind kNot := by rw [evE]; congr 1
theorem v_ite (c : Tst) (a b : Ex) (ρ : Env) : evE Φ (.ite c a b) ρ = (evT Φ c ρ).bind (kIte Φ a b) := by
  rw [evE]; congr 1; funext t ρ; cases t <;> rfl
theorem v_chain (o1 o2 : Op) (a b c : Ex) (ρ : Env) : evE Φ (.chain o1 o2 a b c) ρ = (evE Φ a ρ).bind (kCh1 Φ o1 o2 b c) := by
  rw [evE]; congr 1; funext p ρ; unfold kCh1; congr 1; funext q ρ; unfold kCh2 kCh2b
  cases opSem o1 [p, q] with
  | none => rfl
  | some r => cases r with
    | bl t => cases t <;> rfl
    | _ => rfl
theorem v_chain3 (o1 o2 o3 : Op) (a b c d : Ex) (ρ : Env) : evE Φ (.chain3 o1 o2 o3 a b c d) ρ = (evE Φ a ρ).bind (kCh31 Φ o1 o2 o3 b c d) := by
  rw [evE]; congr 1; funext p ρ; unfold kCh31; congr 1; funext q ρ; unfold kCh32 kCh32b
  cases opSem o1 [p, q] with
  | none => rfl
  | some r => cases r with
    | bl t => cases t with
      | false => rfl
      | true =>
        show (evE Φ c ρ).bind _ = kCh33 Φ o2 o3 c d q ρ
        unfold kCh33
        congr 1; funext r ρ; unfold kCh2 kCh2b
        cases opSem o2 [q, r] with
        | none => rfl
        | some r => cases r with
          | bl t => cases t <;> rfl
          | _ => rfl
    | _ => rfl
theorem v_sl2 (a : Arg) (lo hi : Ex) (ρ : Env) : evE Φ (.sl2 a lo hi) ρ = (evA Φ a ρ).bind (kS1 Φ lo hi) := by
  rw [evE]; congr 1
theorem v_comp (s : Src) (t : Tg) (vs : List Nat) (c : List Tst) (e : Ex) (ρ : Env) : evE Φ (.comp s t vs c e) ρ = (evSrc Φ s ρ).bind (kC1 Φ t vs c e) := by
  rw [evE]; congr 1; funext xs ρ1; unfold kC1
  have h : (fun x ρ2 => match t.bind x ρ2 with
        | some ρ3 => (evTs Φ c ρ3).bind fun b ρ4 => if b = true then (evE Φ e ρ4).bind fun y ρ5 => .ok (some y) (wipeE ρ5 vs) else .ok none (wipeE ρ4 vs)
        | none => .st : PV → Env → ER (Option PV)) = cF Φ t vs c e := by
    funext x ρ2
    unfold cF kC0
    cases t.bind x ρ2 with
    | none => rfl
    | some ρ3 =>
      dsimp only
      congr 1
      funext b ρ4
      cases b <;> rfl
  exact congrArg (fun f => if xs.length ≤ LIM then (compL f xs (wipeE ρ1 vs)).bind (kC2 ρ1 vs) else .st) h
/-- a comprehension over a dict of our own -/
def kCK (i : Nat) (t : Tg) (vs : List Nat) (c : List Tst) (e : Ex) (ρ : Env) (o : Option LV) : ER PV := match o with
  | some (.own (.dK ks ws)) => if (keysP ks).length ≤ LIM then lockE i (.own (.dK ks ws)) ((compL (cF Φ t vs c e) (keysP ks) (wipeE (ρ.set i (some (.fro (.dK ks ws)))) vs)).bind (kC2 (ρ.set i (some (.fro (.dK ks ws)))) vs)) else .st
  | some (.own (.dT ks ws)) => if (ks.map tupQ).length ≤ LIM then lockE i (.own (.dT ks ws)) ((compL (cF Φ t vs c e) (ks.map tupQ) (wipeE (ρ.set i (some (.fro (.dT ks ws)))) vs)).bind (kC2 (ρ.set i (some (.fro (.dT ks ws)))) vs)) else .st
  | _ => .st
theorem v_compK (i : Nat) (t : Tg) (vs : List Nat) (c : List Tst) (e : Ex) (ρ : Env) : evE Φ (.compK i t vs c e) ρ = kCK (Φ := Φ) i t vs c e ρ (at' ρ i) := by
  rw [evE]
  have h : (fun x ρ2 => match t.bind x ρ2 with
        | some ρ3 => (evTs Φ c ρ3).bind fun b ρ4 => if b = true then (evE Φ e ρ4).bind fun y ρ5 => .ok (some y) (wipeE ρ5 vs) else .ok none (wipeE ρ4 vs)
        | none => .st : PV → Env → ER (Option PV)) = cF Φ t vs c e := by
    funext x ρ2
    unfold cF kC0
    cases t.bind x ρ2 with
    | none => rfl
    | some ρ3 =>
      dsimp only
      congr 1
      funext b ρ4
      cases b <;> rfl
  unfold kCK
  generalize at' ρ i = o
  rcases o with _ | (p | p | _)
  · rfl
  · rfl
  · cases p with
    | dK ks ws => exact congrArg (fun f => if (keysP ks).length ≤ LIM then lockE i (.own (.dK ks ws)) ((compL f (keysP ks) (wipeE (ρ.set i (some (.fro (.dK ks ws)))) vs)).bind (kC2 (ρ.set i (some (.fro (.dK ks ws)))) vs)) else .st) h
    | dT ks ws => exact congrArg (fun f => if (ks.map tupQ).length ≤ LIM then lockE i (.own (.dT ks ws)) ((compL f (ks.map tupQ) (wipeE (ρ.set i (some (.fro (.dT ks ws)))) vs)).bind (kC2 (ρ.set i (some (.fro (.dT ks ws)))) vs)) else .st) h
    | _ => rfl
  · rfl
theorem kCK_d (i : Nat) (t : Tg) (vs : List Nat) (c : List Tst) (e : Ex) (ρ : Env) (ks : List Key) (ws : List PV) : kCK (Φ := Φ) i t vs c e ρ (some (.own (.dK ks ws))) = if (keysP ks).length ≤ LIM then lockE i (.own (.dK ks ws)) ((compL (cF Φ t vs c e) (keysP ks) (wipeE (ρ.set i (some (.fro (.dK ks ws)))) vs)).bind (kC2 (ρ.set i (some (.fro (.dK ks ws)))) vs)) else .st := rfl
theorem kCK_t (i : Nat) (t : Tg) (vs : List Nat) (c : List Tst) (e : Ex) (ρ : Env) (ks : List (List Key)) (ws : List PV) : kCK (Φ := Φ) i t vs c e ρ (some (.own (.dT ks ws))) = if (ks.map tupQ).length ≤ LIM then lockE i (.own (.dT ks ws)) ((compL (cF Φ t vs c e) (ks.map tupQ) (wipeE (ρ.set i (some (.fro (.dT ks ws)))) vs)).bind (kC2 (ρ.set i (some (.fro (.dT ks ws)))) vs)) else .st := rfl
/-- a comprehension over a list of our own -/
def kCO (i : Nat) (t : Tg) (vs : List Nat) (c : List Tst) (e : Ex) (ρ : Env) (o : Option LV) : ER PV := match o with
  | some (.own (.lst l)) => if l.length ≤ LIM then putO i (.own (.lst l)) ((compL (cF Φ t vs c e) l (wipeE (ρ.set i none) vs)).bind (kC2 (ρ.set i none) vs)) else .st
  | _ => .st
theorem v_compO (i : Nat) (t : Tg) (vs : List Nat) (c : List Tst) (e : Ex) (ρ : Env) : evE Φ (.compO i t vs c e) ρ = kCO (Φ := Φ) i t vs c e ρ (at' ρ i) := by
  rw [evE]
  have h : (fun x ρ2 => match t.bind x ρ2 with
        | some ρ3 => (evTs Φ c ρ3).bind fun b ρ4 => if b = true then (evE Φ e ρ4).bind fun y ρ5 => .ok (some y) (wipeE ρ5 vs) else .ok none (wipeE ρ4 vs)
        | none => .st : PV → Env → ER (Option PV)) = cF Φ t vs c e := by
    funext x ρ2
    unfold cF kC0
    cases t.bind x ρ2 with
    | none => rfl
    | some ρ3 =>
      dsimp only
      congr 1
      funext b ρ4
      cases b <;> rfl
  unfold kCO
  generalize at' ρ i = o
  rcases o with _ | (p | p | _)
  · rfl
  · rfl
  · cases p with
    | lst l => exact congrArg (fun f => if l.length ≤ LIM then putO i (.own (.lst l)) ((compL f l (wipeE (ρ.set i none) vs)).bind (kC2 (ρ.set i none) vs)) else .st) h
    | _ => rfl
  · rfl
theorem kCO_l (i : Nat) (t : Tg) (vs : List Nat) (c : List Tst) (e : Ex) (ρ : Env) (l : List PV) : kCO (Φ := Φ) i t vs c e ρ (some (.own (.lst l))) = if l.length ≤ LIM then putO i (.own (.lst l)) ((compL (cF Φ t vs c e) l (wipeE (ρ.set i none) vs)).bind (kC2 (ρ.set i none) vs)) else .st := rfl
theorem putO_ok (i : Nat) (l : LV) (p : PV) (ρ : Env) : putO i l (.ok p ρ) = .ok p (ρ.set i (some l)) := rfl
theorem v_aref (i : Nat) (ρ : Env) : evA Φ (.ref i) ρ = match ρ[i]? with
    | some (some (.fro p)) => .ok (.val p) ρ
    | some (some _) => .ok (.ref i) ρ
    | _ => .st := by rw [evA]; try rfl
theorem v_aval (e : Ex) (ρ : Env) : evA Φ (.val e) ρ = (evE Φ e ρ).bind kVal := by rw [evA]; rfl
theorem v_as0 (ρ : Env) : evAs Φ [] ρ = .ok [] ρ := by rw [evAs]
theorem v_as (a : Arg) (as : List Arg) (ρ : Env) : evAs Φ (a :: as) ρ = (evA Φ a ρ).bind (kAs Φ as) := by rw [evAs]; rfl
theorem v_es0 (ρ : Env) : evEs Φ [] ρ = .ok [] ρ := by rw [evEs]
theorem v_es (a : Ex) (as : List Ex) (ρ : Env) : evEs Φ (a :: as) ρ = (evE Φ a ρ).bind (kEs Φ as) := by rw [evEs]; rfl
theorem v_tand (a b : Tst) (ρ : Env) : evT Φ (.and a b) ρ = (evT Φ a ρ).bind (kTand Φ b) := by
  rw [evT]; congr 1; funext t ρ; cases t <;> rfl
theorem v_tor (a b : Tst) (ρ : Env) : evT Φ (.or a b) ρ = (evT Φ a ρ).bind (kTor Φ b) := by
  rw [evT]; congr 1; funext t ρ; cases t <;> rfl
theorem v_tnot (a : Tst) (ρ : Env) : evT Φ (.not a) ρ = (evT Φ a ρ).bind kTnot := by rw [evT]; rfl
theorem v_te (x : Ex) (ρ : Env) : evT Φ (.e x) ρ = (evE Φ x ρ).bind kTe := by
  rw [evT]; congr 1
theorem v_ts0 (ρ : Env) : evTs Φ [] ρ = .ok true ρ := by rw [evTs]
theorem v_ts1 (c : Tst) (ρ : Env) : evTs Φ [c] ρ = evT Φ c ρ := by rw [evTs]
theorem v_seq (e : Ex) (ρ : Env) : evSrc Φ (.seq e) ρ = (evE Φ e ρ).bind kSeq := by rw [evSrc]; rfl
theorem v_seqS (e : Ex) (ρ : Env) : evSrc Φ (.seqS e) ρ = (evE Φ e ρ).bind kSeqS := by rw [evSrc]; congr 1
theorem v_rng1 (a : Ex) (ρ : Env) : evSrc Φ (.rng1 a) ρ = (evE Φ a ρ).bind kR1 := by rw [evSrc]; congr 1
theorem v_rng2 (a b : Ex) (ρ : Env) : evSrc Φ (.rng2 a b) ρ = (evE Φ a ρ).bind (kR2 Φ b) := by
  rw [evSrc]; congr 1
theorem v_enum (a : Ex) (ρ : Env) : evSrc Φ (.enum a) ρ = (evE Φ a ρ).bind kEn := by rw [evSrc]; rfl
theorem v_zip (a b : Ex) (ρ : Env) : evSrc Φ (.zip a b) ρ = (evE Φ a ρ).bind (kZ1 Φ b) := by rw [evSrc]; congr 1
/-! calls with a temporary of our own -/
theorem l_callT' (j k : Nat) (as cs bs : List Arg) (ρ : Env) : evL Φ (.callT j as k cs bs) ρ = (evAs Φ as ρ).bind (kT1 Φ j k cs bs) := rfl
theorem ER.assoc {α β γ : Type} (r : ER α) (f : α → Env → ER β) (g : β → Env → ER γ) : (r.bind f).bind g = r.bind fun a ρ => (f a ρ).bind g := by cases r <;> rfl
theorem kN2_eq (j : Nat) (t : Bool) (avs : List AV) (bvs : List AV) (ρ : Env) : kN2 Φ j t avs bvs ρ = dropT (callE (Φ j) (avs.map AV.sh ++ .ref 0 :: bvs.map AV.sh) (some (newL t) :: ρ)) := by rfl
theorem newL_t : newL true = .own (.dT [] []) := rfl
theorem newL_f : newL false = .own (.dK [] []) := rfl
theorem l_callN' (j : Nat) (as : List Arg) (t : Bool) (bs : List Arg) (ρ : Env) : evL Φ (.callN j as t bs) ρ = (evAs Φ as ρ).bind (kN1 Φ j t bs) := rfl
theorem v_callN (j : Nat) (as : List Arg) (t : Bool) (bs : List Arg) (ρ : Env) : evE Φ (.callN j as t bs) ρ = froE (evL Φ (.callN j as t bs) ρ) := by
  rw [l_callN', evE]
  unfold froE
  rw [ER.assoc]
  congr 1
  funext avs ρ1
  unfold kN1
  rw [ER.assoc]
  rfl
theorem v_callT (j k : Nat) (as cs bs : List Arg) (ρ : Env) : evE Φ (.callT j as k cs bs) ρ = froE (evL Φ (.callT j as k cs bs) ρ) := by
  rw [l_callT', evE]
  unfold froE
  rw [ER.assoc]
  congr 1
  funext avs ρ1
  unfold kT1
  rw [ER.assoc]
  congr 1
  funext cvs ρ2
  unfold kT2
  rw [ER.assoc]
  congr 1
  funext l ρ3
  unfold kT3
  rw [ER.assoc]
  rfl
theorem kT4_eq (j : Nat) (avs : List AV) (l : LV) (bvs : List AV) (ρ : Env) : kT4 Φ j avs l bvs ρ = dropT (callE (Φ j) (avs.map AV.sh ++ .ref 0 :: bvs.map AV.sh) (some l :: ρ)) := by rfl
theorem dropT_ok (l : LV) (x : Option LV) (ρ : Env) : dropT (.ok l (x :: ρ)) = .ok l ρ := by rfl
theorem dropT_ex (c : Str) (x : Option LV) (ρ : Env) : dropT (.ex c (x :: ρ)) = .ex c ρ := by rfl
theorem dropT_st : dropT .st = .st := by rfl
theorem sh_val (p : PV) : AV.sh (.val p) = .val p := by rfl
theorem sh_ref (i : Nat) : AV.sh (.ref i) = .ref (i + 1) := by rfl
def kXt (ps : List PV) (ρ : Env) : ER PV := if ps.length ≤ LIM then .ok (.xt ps) ρ else .st
theorem v_xtup (es : List Ex) (ρ : Env) : evE Φ (.xtup es) ρ = (evEs Φ es ρ).bind kXt := by rw [evE]; rfl
theorem l_xtup (i : List Ex) (ρ : Env) : evL Φ (.xtup i) ρ = (evE Φ (.xtup i) ρ).bind kFro := rfl
theorem v_rev (a : Ex) (ρ : Env) : evSrc Φ (.rev a) ρ = (evE Φ a ρ).bind kRv := by rw [evSrc]; rfl
/-- one of two functions -/
def kSel (j1 j2 : Nat) (as : List Arg) (o : Option LV) (ρ : Env) : ER LV := match o with
  | some (.fro (.int 0)) => (evAs Φ as ρ).bind fun avs ρ1 => callE (Φ j1) avs ρ1
  | some (.fro (.int 1)) => (evAs Φ as ρ).bind fun avs ρ1 => callE (Φ j2) avs ρ1
  | _ => .st
theorem l_sel' (j1 j2 i : Nat) (as : List Arg) (ρ : Env) : evL Φ (.sel j1 j2 i as) ρ = kSel (Φ := Φ) j1 j2 as (at' ρ i) ρ := rfl
theorem v_sel (j1 j2 i : Nat) (as : List Arg) (ρ : Env) : evE Φ (.sel j1 j2 i as) ρ = froE (kSel (Φ := Φ) j1 j2 as (at' ρ i) ρ) := by
  rw [evE]
  generalize at' ρ i = z
  unfold kSel
  split
  · unfold froE; exact (ER.assoc ..).symm
  · unfold froE; exact (ER.assoc ..).symm
  · rename_i n1 n2
    first
      | rfl
      | (split <;> first | exact absurd rfl n1 | exact absurd rfl n2 | rfl)
theorem kSel_0 (j1 j2 : Nat) (as : List Arg) (ρ : Env) : kSel (Φ := Φ) j1 j2 as (some (.fro (.int 0))) ρ = (evAs Φ as ρ).bind (kCallL Φ j1) := rfl
theorem kSel_1 (j1 j2 : Nat) (as : List Arg) (ρ : Env) : kSel (Φ := Φ) j1 j2 as (some (.fro (.int 1))) ρ = (evAs Φ as ρ).bind (kCallL Φ j2) := rfl
/-! values of our own -/
theorem l_app (o : Op) (as : List Arg) (ρ : Env) : evL Φ (.app o as) ρ = (evE Φ (.app o as) ρ).bind (kOwnV o) := rfl
theorem l_mth' (o : Op) (a : Arg) (as : List Arg) (ρ : Env) : evL Φ (.mth o a as) ρ = (evE Φ (.mth o a as) ρ).bind (kOwnV o) := rfl
theorem l_lst' (es : List Ex) (ρ : Env) : evL Φ (.lst es) ρ = (evE Φ (.lst es) ρ).bind kOwn := rfl
theorem l_dnewT' (ρ : Env) : evL Φ .dnewT ρ = .ok (.own (.dT [] [])) ρ := rfl
theorem l_dnewX' (ρ : Env) : evL Φ .dnewX ρ = .ok (.own (.dX [] [])) ρ := rfl
theorem l_dnew' (ρ : Env) : evL Φ .dnew ρ = .ok (.own (.dK [] [])) ρ := rfl
theorem l_call' (j : Nat) (as : List Arg) (ρ : Env) : evL Φ (.call j as) ρ = (evAs Φ as ρ).bind (kCallL Φ j) := rfl
theorem l_comp' (s : Src) (t : Tg) (vs : List Nat) (c : List Tst) (e : Ex) (ρ : Env) : evL Φ (.comp s t vs c e) ρ = (evE Φ (.comp s t vs c e) ρ).bind kOwn := rfl
theorem l_compK' (i : Nat) (t : Tg) (vs : List Nat) (c : List Tst) (e : Ex) (ρ : Env) : evL Φ (.compK i t vs c e) ρ = (evE Φ (.compK i t vs c e) ρ).bind kOwn := rfl
theorem l_compO' (i : Nat) (t : Tg) (vs : List Nat) (c : List Tst) (e : Ex) (ρ : Env) : evL Φ (.compO i t vs c e) ρ = (evE Φ (.compO i t vs c e) ρ).bind kOwn := rfl
def kMv (i : Nat) (ρ : Env) (o : Option LV) : ER LV := match o with
  | some (.own p) => .ok (.own p) (ρ.set i none)
  | some (.fro p) => .ok (.fro p) ρ
  | _ => .st
theorem l_mvv' (i : Nat) (ρ : Env) : evL Φ (.mvv i) ρ = kMv i ρ (at' ρ i) := rfl
theorem kMv_o (i : Nat) (ρ : Env) (p : PV) : kMv i ρ (some (.own p)) = .ok (.own p) (ρ.set i none) := rfl
theorem kMv_f (i : Nat) (ρ : Env) (p : PV) : kMv i ρ (some (.fro p)) = .ok (.fro p) ρ := rfl
theorem l_var (i : Nat) (ρ : Env) : evL Φ (.var i) ρ = (evE Φ (.var i) ρ).bind kFro := rfl
theorem l_cst (i : PV) (ρ : Env) : evL Φ (.cst i) ρ = .ok (.fro i) ρ := by
  show (evE Φ (.cst i) ρ).bind kFro = _
  rw [v_cst]; rfl
theorem l_tup (i : List Ex) (ρ : Env) : evL Φ (.tup i) ρ = (evE Φ (.tup i) ρ).bind kFro := rfl
theorem l_and (a b : Ex) (ρ : Env) : evL Φ (.and a b) ρ = (evE Φ (.and a b) ρ).bind kFro := rfl
theorem l_or (a b : Ex) (ρ : Env) : evL Φ (.or a b) ρ = (evE Φ (.or a b) ρ).bind kFro := rfl
theorem l_popD (i : Nat) (e : Ex) (ρ : Env) : evL Φ (.popD i e) ρ = (evE Φ (.popD i e) ρ).bind kFro := rfl
theorem l_popE (i : Nat) (e : Ex) (ρ : Env) : evL Φ (.popE i e) ρ = (evE Φ (.popE i e) ρ).bind kFro := rfl
theorem l_popL (i : Nat) (ρ : Env) : evL Φ (.popL i) ρ = (evE Φ (.popL i) ρ).bind kFro := rfl
theorem l_not (a : Ex) (ρ : Env) : evL Φ (.not a) ρ = (evE Φ (.not a) ρ).bind kFro := rfl
theorem l_ite (c : Tst) (a b : Ex) (ρ : Env) : evL Φ (.ite c a b) ρ = (evE Φ (.ite c a b) ρ).bind kFro := rfl
theorem l_chain3 (o1 o2 o3 : Op) (a b c d : Ex) (ρ : Env) : evL Φ (.chain3 o1 o2 o3 a b c d) ρ = (evE Φ (.chain3 o1 o2 o3 a b c d) ρ).bind kFro := rfl
theorem l_chain (o1 o2 : Op) (a b c : Ex) (ρ : Env) : evL Φ (.chain o1 o2 a b c) ρ = (evE Φ (.chain o1 o2 a b c) ρ).bind kFro := rfl
theorem l_sl2 (a : Arg) (lo hi : Ex) (ρ : Env) : evL Φ (.sl2 a lo hi) ρ = (evE Φ (.sl2 a lo hi) ρ).bind kFro := rfl
/-! statements -/
theorem x_set (i : Nat) (e : Ex) (ρ : Env) : exS Φ n (.set i e) ρ = (evL Φ e ρ).so (kSet i) := by rw [exS]; rfl
theorem x_unp (t : Tg) (e : Ex) (ρ : Env) : exS Φ n (.unp t e) ρ = (evE Φ e ρ).so (kUnp t) := by rw [exS]; rfl
theorem x_par (is : List Nat) (es : List Ex) (ρ : Env) : exS Φ n (.par is es) ρ = (evEs Φ es ρ).so (kPar is) := by rw [exS]; rfl
theorem x_setIx (i : Nat) (k e : Ex) (ρ : Env) : exS Φ n (.setIx i k e) ρ = (evE Φ e ρ).so (kSI1 Φ i k) := by rw [exS]; rfl
theorem x_app (i : Nat) (e : Ex) (ρ : Env) : exS Φ n (.app i e) ρ = if ownL ρ i = true then (evE Φ e ρ).so (kApp i) else .st := by rw [exS]; rfl
theorem x_ext (i : Nat) (e : Ex) (ρ : Env) : exS Φ n (.ext i e) ρ = if ownL ρ i = true then (evE Φ e ρ).so (kExt i) else .st := by rw [exS]; rfl
theorem x_popA (i : Nat) (e : Ex) (ρ : Env) : exS Φ n (.popA i e) ρ = if ownL ρ i = true then (evE Φ e ρ).so (kPopA i) else .st := by rw [exS]; rfl
theorem x_insA (i : Nat) (k e : Ex) (ρ : Env) : exS Φ n (.insA i k e) ρ = if ownL ρ i = true then (evE Φ k ρ).so (kIns1 Φ i e) else .st := by rw [exS]; rfl
theorem x_ex (e : Ex) (ρ : Env) : exS Φ n (.ex e) ρ = (evE Φ e ρ).so kEx := by rw [exS]; rfl
theorem x_ret (e : Ex) (ρ : Env) : exS Φ n (.ret e) ρ = (evL Φ e ρ).so kRet := by rw [exS]; rfl
theorem x_retV (i : Nat) (ρ : Env) : exS Φ n (.retV i) ρ = match at' ρ i with
    | some l => .rt l (ρ.set i none)
    | none => .st := by rw [exS]; try rfl
theorem x_retN (ρ : Env) : exS Φ n .retN ρ = .rt (.fro .non) ρ := by rw [exS]
theorem x_if (c : Tst) (a b : List St) (ρ : Env) : exS Φ n (.ite c a b) ρ = (evT Φ c ρ).so (kIf Φ n a b) := by
  rw [exS]; congr 1; funext t ρ; cases t <;> rfl
theorem x_whl (c : Tst) (b : List St) (ρ : Env) : exS Φ n (.whl c b) ρ = whlL (evT Φ c) (exSs Φ n b) n ρ := by rw [exS]
theorem x_for (s : Src) (t : Tg) (b : List St) (ρ : Env) (h : ∀ i it, s ≠ .lock i it) : exS Φ n (.for s t b) ρ = (evSrc Φ s ρ).so (kFor Φ n t b) := by
  cases s with
  | lock i it => exact absurd rfl (h i it)
  | _ => rw [exS] <;> first | rfl | (intro i it z; cases z)
def kLock (i : Nat) (it : Bool) (t : Tg) (b : List St) (ρ : Env) (l : Option LV) : SO := match l with
  | some (.own (.dK ks vs)) => lockR i (.own (.dK ks vs)) (forL (bindS (exSs Φ n b) t) (if it = true then itemsP ks vs else keysP ks) (ρ.set i (some (.fro (.dK ks vs)))))
  | _ => .st
def lockV (i : Nat) (l : LV) (v : Option LV) (ρ : Env) : SO := match v with
  | some w => .rt w ((thin ρ).set i (some l))
  | none => .st
theorem x_lock (i : Nat) (it : Bool) (t : Tg) (b : List St) (ρ : Env) : exS Φ n (.for (.lock i it) t b) ρ = kLock (Φ := Φ) (n := n) i it t b ρ (at' ρ i) := by
  rw [exS]
  unfold kLock
  rfl
theorem kLock_d (i : Nat) (it : Bool) (t : Tg) (b : List St) (ρ : Env) (ks : List Key) (vs : List PV) : kLock (Φ := Φ) (n := n) i it t b ρ (some (.own (.dK ks vs))) = lockR i (.own (.dK ks vs)) (forL (bindS (exSs Φ n b) t) (if it = true then itemsP ks vs else keysP ks) (ρ.set i (some (.fro (.dK ks vs))))) := rfl
theorem lockE_ok (i : Nat) (l : LV) (ys : List PV) (ρ : Env) : lockE i l (.ok (.lst ys) ρ) = if PV.noDs ys = true then .ok (.lst ys) ((thin ρ).set i (some l)) else .st := rfl
theorem lockR_nx (i : Nat) (l : LV) (ρ : Env) : lockR i l (.nx ρ) = .nx ((thin ρ).set i (some l)) := rfl
theorem lockR_rt (i : Nat) (l v : LV) (ρ : Env) : lockR i l (.rt v ρ) = lockV i l (thinL v) ρ := by
  unfold lockR lockV
  rfl
theorem lockV_s (i : Nat) (l v : LV) (ρ : Env) : lockV i l (some v) ρ = .rt v ((thin ρ).set i (some l)) := rfl
theorem thin_0 : thin [] = [] := rfl
theorem thin_c (o : Option LV) (ρ : Env) : thin (o :: ρ) = thinO o :: thin ρ := rfl
theorem thinO_n : thinO none = none := rfl
theorem thinO_s (l : LV) : thinO (some l) = thinL l := rfl
theorem thinL_f (p : PV) : thinL (.fro p) = if p.noD = true then some (.fro p) else none := rfl
theorem thinL_l (l : List PV) : thinL (.own (.lst l)) = if PV.noDs l = true then some (.own (.lst l)) else none := rfl
theorem thinL_d (ks : List Key) (l : List PV) : thinL (.own (.dK ks l)) = if PV.noDs l = true then some (.own (.dK ks l)) else none := rfl
theorem thinL_t (ks : List (List Key)) (l : List PV) : thinL (.own (.dT ks l)) = if PV.noDs l = true then some (.own (.dT ks l)) else none := rfl
theorem noD_n : PV.noD .non = true := rfl
theorem noD_b (b : Bool) : PV.noD (.bl b) = true := rfl
theorem noD_i (i : Int) : PV.noD (.int i) = true := rfl
theorem noD_s (i : Str) : PV.noD (.str i) = true := rfl
theorem noD_e (i : Str) : PV.noD (.exc i) = true := rfl
theorem noD_t (l : List PV) : PV.noD (.tup l) = PV.noDs l := by rw [PV.noD]
theorem noD_x (l : List PV) : PV.noD (.xt l) = PV.noDs l := by rw [PV.noD]
theorem noD_l (l : List PV) : PV.noD (.lst l) = PV.noDs l := by rw [PV.noD]
theorem noD_d (ks : List Key) (l : List PV) : PV.noD (.dK ks l) = false := by rw [PV.noD]
theorem noDs_0 : PV.noDs [] = true := by rw [PV.noDs]
theorem noDs_c (p : PV) (l : List PV) : PV.noDs (p :: l) = (p.noD && PV.noDs l) := by rw [PV.noDs]
theorem noDs_all : ∀ (l : List PV), PV.noDs l = l.all PV.noD
  | [] => noDs_0
  | p :: l => by rw [noDs_c, noDs_all l, List.all_cons]
theorem noDs_i (l : List Int) : PV.noDs (l.map .int) = true := by
  rw [noDs_all, List.all_map]
  exact List.all_eq_true.mpr fun x _ => rfl
theorem x_brk (ρ : Env) : exS Φ n .brk ρ = .bk ρ := by rw [exS]
theorem x_cont (ρ : Env) : exS Φ n .cont ρ = .ct ρ := by rw [exS]
theorem x_pass (ρ : Env) : exS Φ n .pass ρ = .nx ρ := by rw [exS]
theorem x_try (b : List St) (x : Str) (i : Option Nat) (kn : List Str) (s : List St) (ρ : Env) : exS Φ n (.tryx b x i kn s) ρ = tryK x i kn (exSs Φ n s) (exSs Φ n b ρ) := by rw [exS]
theorem tryK_nx (x : Str) (i : Option Nat) (kn : List Str) (f : Env → SO) (ρ : Env) : tryK x i kn f (.nx ρ) = .nx ρ := rfl
theorem tryK_rt (x : Str) (i : Option Nat) (kn : List Str) (f : Env → SO) (l : LV) (ρ : Env) : tryK x i kn f (.rt l ρ) = .rt l ρ := rfl
theorem tryK_bk (x : Str) (i : Option Nat) (kn : List Str) (f : Env → SO) (ρ : Env) : tryK x i kn f (.bk ρ) = .bk ρ := rfl
theorem tryK_ct (x : Str) (i : Option Nat) (kn : List Str) (f : Env → SO) (ρ : Env) : tryK x i kn f (.ct ρ) = .ct ρ := rfl
theorem tryK_ex (x : Str) (i : Option Nat) (kn : List Str) (f : Env → SO) (c : Str) (ρ : Env) (h : c ∈ kn ∧ x ∈ ("BrimError" : Str) :: kn) (h2 : subX c x = true) : tryK x i kn f (.ex c ρ) = suiteX i (f (setX i c ρ)) := by
  unfold tryK
  dsimp only
  rw [if_pos h, if_pos h2]
theorem isExP_exc {kn cs : List Str} {c : Str} {b : Bool} (h : c ∈ kn ∧ ∀ x ∈ cs, x ∈ ("BrimError" : Str) :: "ValueError" :: kn) (hb : cs.any (subX c) = b) : isExP kn cs [.exc c] = some (.bl b) := by
  unfold isExP
  dsimp only
  rw [if_pos h, hb]
theorem isExP_non {kn cs : List Str} (h : ∀ x ∈ cs, x ∈ ("BrimError" : Str) :: "ValueError" :: kn) : isExP kn cs [.non] = some (.bl false) := by
  unfold isExP
  dsimp only
  rw [if_pos h]
theorem suiteX_nx (i : Option Nat) (ρ : Env) : suiteX i (.nx ρ) = .nx (goneX i ρ) := rfl
theorem suiteX_bk (i : Option Nat) (ρ : Env) : suiteX i (.bk ρ) = .bk (goneX i ρ) := rfl
theorem suiteX_ct (i : Option Nat) (ρ : Env) : suiteX i (.ct ρ) = .ct (goneX i ρ) := rfl
theorem suiteX_rt (i : Option Nat) (l : LV) (ρ : Env) : suiteX i (.rt l ρ) = .rt l ρ := rfl
theorem setX_some (i : Nat) (c : Str) (ρ : Env) : setX (some i) c ρ = ρ.set i (some (.fro (.exc c))) := rfl
theorem setX_none (c : Str) (ρ : Env) : setX none c ρ = ρ := rfl
theorem goneX_some (i : Nat) (ρ : Env) : goneX (some i) ρ = ρ.set i none := rfl
theorem goneX_none (ρ : Env) : goneX none ρ = ρ := rfl
theorem x_raise (c : Str) (ρ : Env) : exS Φ n (.raise c) ρ = .ex c ρ := by rw [exS]
end
theorem dn_non : PV.dn .non = .non := rfl
theorem dn_bl (b : Bool) : PV.dn (.bl b) = .bl b := rfl
theorem dn_int (i : Int) : PV.dn (.int i) = .int i := rfl
theorem dn_str (i : Str) : PV.dn (.str i) = .str i := rfl
theorem dn_ty (i : String) : PV.dn (.ty i) = .ty i := rfl
theorem dn_exc (i : Str) : PV.dn (.exc i) = .exc i := rfl
theorem dn_tup (l : List PV) : PV.dn (.tup l) = .tup l := rfl
theorem dn_xt (l : List PV) : PV.dn (.xt l) = .tup l := rfl
theorem dn_lst (l : List PV) : PV.dn (.lst l) = .lst l := rfl
theorem dn_dK (k : List Key) (l : List PV) : PV.dn (.dK k l) = .dK k l := rfl
theorem dn_dT (k : List (List Key)) (l : List PV) : PV.dn (.dT k l) = .dT k l := rfl
theorem dn_dX (k l : List PV) : PV.dn (.dX k l) = .dX k l := rfl
theorem dn_gt (l : List PV) : PV.dn (.gt l) = .tup l := rfl
theorem dn_obj (c : Str) (ns : List Str) (l : List PV) : PV.dn (.obj c ns l) = .obj c ns l := rfl
theorem dn_dn (p : PV) : p.dn.dn = p.dn := by cases p <;> rfl
theorem isD_dn (n : Nat) (p : PV) : p.dn.isD n = p.isD n := by
  cases p with
  | xt l => cases n <;> (simp only [PV.dn]; unfold PV.isD; rfl)
  | gt l => cases n <;> (simp only [PV.dn]; unfold PV.isD; rfl)
  | _ => rfl
theorem toD_dn (p : PV) : p.dn.toD = p.toD := by
  cases p with
  | xt l => simp only [PV.dn]; unfold PV.toD; rfl
  | gt l => simp only [PV.dn]; unfold PV.toD; rfl
  | _ => rfl
theorem eqP_dnl (p q : PV) : eqP p.dn q = eqP p q := by unfold eqP; rw [toD_dn]
theorem eqP_dnr (p q : PV) : eqP p q.dn = eqP p q := by unfold eqP; rw [toD_dn]
theorem opX_add (ps : List PV) : opX .add ps = opSem .add ps := rfl
theorem opX_sub (ps : List PV) : opX .sub ps = opSem .sub (ps.map PV.dn) := rfl
theorem opX_mul (ps : List PV) : opX .mul ps = opSem .mul ps := rfl
theorem opX_fdiv (ps : List PV) : opX .fdiv ps = opSem .fdiv (ps.map PV.dn) := rfl
theorem opX_mod (ps : List PV) : opX .mod ps = opSem .mod (ps.map PV.dn) := rfl
theorem opX_pow (ps : List PV) : opX .pow ps = opSem .pow (ps.map PV.dn) := rfl
theorem opX_neg (ps : List PV) : opX .neg ps = opSem .neg (ps.map PV.dn) := rfl
theorem opX_eq (ps : List PV) : opX .eq ps = opSem .eq (ps.map PV.dn) := rfl
theorem opX_ne (ps : List PV) : opX .ne ps = opSem .ne (ps.map PV.dn) := rfl
theorem opX_lt (ps : List PV) : opX .lt ps = opSem .lt (ps.map PV.dn) := rfl
theorem opX_le (ps : List PV) : opX .le ps = opSem .le (ps.map PV.dn) := rfl
theorem opX_gt (ps : List PV) : opX .gt ps = opSem .gt (ps.map PV.dn) := rfl
theorem opX_ge (ps : List PV) : opX .ge ps = opSem .ge (ps.map PV.dn) := rfl
theorem opX_isN (ps : List PV) : opX .isN ps = opSem .isN (ps.map PV.dn) := rfl
theorem opX_isNN (ps : List PV) : opX .isNN ps = opSem .isNN (ps.map PV.dn) := rfl
theorem opX_inn (ps : List PV) : opX .inn ps = opSem .inn (ps.map PV.dn) := rfl
theorem opX_nin (ps : List PV) : opX .nin ps = opSem .nin (ps.map PV.dn) := rfl
theorem opX_len (ps : List PV) : opX .len ps = opSem .len (ps.map PV.dn) := rfl
theorem opX_sum (ps : List PV) : opX .sum ps = opSem .sum (ps.map PV.dn) := rfl
theorem opX_abs (ps : List PV) : opX .abs ps = opSem .abs (ps.map PV.dn) := rfl
theorem opX_int1 (ps : List PV) : opX .int1 ps = opSem .int1 (ps.map PV.dn) := rfl
theorem opX_str1 (ps : List PV) : opX .str1 ps = opSem .str1 (ps.map PV.dn) := rfl
theorem opX_tuple1 (ps : List PV) : opX .tuple1 ps = opSem .tuple1 ps := rfl
theorem opX_list1 (ps : List PV) : opX .list1 ps = opSem .list1 (ps.map PV.dn) := rfl
theorem opX_sorted (ps : List PV) : opX .sorted ps = opSem .sorted (ps.map PV.dn) := rfl
theorem opX_allL (ps : List PV) : opX .allL ps = opSem .allL (ps.map PV.dn) := rfl
theorem opX_anyL (ps : List PV) : opX .anyL ps = opSem .anyL (ps.map PV.dn) := rfl
theorem opX_min2 (ps : List PV) : opX .min2 ps = opSem .min2 (ps.map PV.dn) := rfl
theorem opX_max3 (ps : List PV) : opX .max3 ps = opSem .max3 (ps.map PV.dn) := rfl
theorem opX_min3 (ps : List PV) : opX .min3 ps = opSem .min3 (ps.map PV.dn) := rfl
theorem opX_max2 (ps : List PV) : opX .max2 ps = opSem .max2 (ps.map PV.dn) := rfl
theorem opX_minL (ps : List PV) : opX .minL ps = opSem .minL (ps.map PV.dn) := rfl
theorem opX_maxL (ps : List PV) : opX .maxL ps = opSem .maxL (ps.map PV.dn) := rfl
theorem opX_idx (ps : List PV) : opX .idx ps = opSem .idx (ps.map PV.dn) := rfl
theorem opX_rev (ps : List PV) : opX .rev ps = opSem .rev (ps.map PV.dn) := rfl
theorem opX_dget (ps : List PV) : opX .dget ps = opSem .dget (ps.map PV.dn) := rfl
theorem opX_values (ps : List PV) : opX .values ps = opSem .values (ps.map PV.dn) := rfl
theorem opX_dmod (ps : List PV) : opX .dmod ps = opSem .dmod (ps.map PV.dn) := rfl
theorem opX_lcnt (ps : List PV) : opX .lcnt ps = opSem .lcnt (ps.map PV.dn) := rfl
theorem opX_tcnt (ps : List PV) : opX .tcnt ps = opSem .tcnt ps := rfl
theorem opX_max2D (ps : List PV) : opX .max2D ps = opSem .max2D ps := rfl
theorem opX_strD (ps : List PV) : opX .strD ps = opSem .strD (ps.map PV.dn) := rfl
theorem opX_valsL (ps : List PV) : opX .valsL ps = opSem .valsL (ps.map PV.dn) := rfl
theorem opX_minV (z : Int) (ps : List PV) : opX (.minV z) ps = opSem (.minV z) (ps.map PV.dn) := rfl
theorem opX_minT (z : Int) (ps : List PV) : opX (.minT z) ps = opSem (.minT z) (ps.map PV.dn) := rfl
theorem opX_addX (ps : List PV) : opX .addX ps = opSem .addX ps := rfl
theorem opX_sset (ps : List PV) : opX .sset ps = opSem .sset (ps.map PV.dn) := rfl
theorem opX_valsS (ps : List PV) : opX .valsS ps = opSem .valsS (ps.map PV.dn) := rfl
theorem opX_lidx (ps : List PV) : opX .lidx ps = opSem .lidx (ps.map PV.dn) := rfl
theorem opX_bits (ps : List PV) : opX .bits ps = opSem .bits (ps.map PV.dn) := rfl
theorem opX_sortedD (ps : List PV) : opX .sortedD ps = opSem .sortedD (ps.map PV.dn) := rfl
theorem opX_minD (ps : List PV) : opX .minD ps = opSem .minD (ps.map PV.dn) := rfl
theorem opX_maxD (ps : List PV) : opX .maxD ps = opSem .maxD (ps.map PV.dn) := rfl
theorem opX_isB (b : Bool) (ps : List PV) : opX (.isB b) ps = opSem (.isB b) (ps.map PV.dn) := rfl
theorem opX_isNB (b : Bool) (ps : List PV) : opX (.isNB b) ps = opSem (.isNB b) (ps.map PV.dn) := rfl
theorem opX_isTy (b : List String) (ps : List PV) : opX (.isTy b) ps = opSem (.isTy b) (ps.map PV.dn) := rfl
theorem opX_mkX (c : Str) (ps : List PV) : opX (.mkX c) ps = opSem (.mkX c) (ps.map PV.dn) := rfl
theorem opX_revX (ps : List PV) : opX .revX ps = opSem .revX ps := rfl
theorem opX_slcX (ps : List PV) : opX .slcX ps = opSem .slcX ps := rfl
theorem opX_lsetX (ps : List PV) : opX .lsetX ps = opSem .lsetX (ps.map PV.dn) := rfl
theorem opX_slc (a b : Bool) (ps : List PV) : opX (.slc a b) ps = opSem (.slc a b) ps := rfl
theorem opX_idxT (ps : List PV) : opX .idxT ps = opSem .idxT ps := rfl
theorem opX_dgetT (ps : List PV) : opX .dgetT ps = opSem .dgetT ps := rfl
theorem opX_innT (ps : List PV) : opX .innT ps = opSem .innT ps := rfl
theorem opX_ninT (ps : List PV) : opX .ninT ps = opSem .ninT ps := rfl
theorem opX_sortT (ps : List PV) : opX .sortT ps = opSem .sortT ps := rfl
theorem opX_isEx (a b : List Str) (ps : List PV) : opX (.isEx a b) ps = opSem (.isEx a b) (ps.map PV.dn) := rfl
theorem opX_dict1 (ps : List PV) : opX .dict1 ps = opSem .dict1 ps := rfl
theorem opX_ssetT (ps : List PV) : opX .ssetT ps = opSem .ssetT (ps.map PV.dn) := rfl
theorem opX_lset (ps : List PV) : opX .lset ps = opSem .lset (ps.map PV.dn) := rfl
theorem opX_join (ps : List PV) : opX .join ps = opSem .join (ps.map PV.dn) := rfl
theorem opX_split (ps : List PV) : opX .split ps = opSem .split (ps.map PV.dn) := rfl
theorem opX_strip2 (ps : List PV) : opX .strip2 ps = opSem .strip2 (ps.map PV.dn) := rfl
theorem opX_intS (ps : List PV) : opX .intS ps = opSem .intS (ps.map PV.dn) := rfl
theorem opX_idxS (ps : List PV) : opX .idxS ps = opSem .idxS (ps.map PV.dn) := rfl
theorem opX_inS (ps : List PV) : opX .inS ps = opSem .inS (ps.map PV.dn) := rfl
theorem opX_dictT (ps : List PV) : opX .dictT ps = opSem .dictT ps := rfl
theorem opX_tupleX (ps : List PV) : opX .tupleX ps = opSem .tupleX ps := rfl
def callK (avs : List AV) (ρ : Env) (ls : List LV) (r : CR) : ER LV := match r with
  | .ok r ls' => if ls'.length = ls.length then .ok r (AV.back ρ avs (maskL ls ls')) else .st
  | .ex c ls' => if ls'.length = ls.length then .ex c (AV.back ρ avs (maskL ls ls')) else .st
  | .st => .st
theorem callK_ok (avs : List AV) (ρ : Env) (ls ls' : List LV) (r : LV) : callK avs ρ ls (.ok r ls') = if ls'.length = ls.length then .ok r (AV.back ρ avs (maskL ls ls')) else .st := by
  cases ls <;> rfl
theorem callK_ex (avs : List AV) (ρ : Env) (ls ls' : List LV) (c : Str) : callK avs ρ ls (.ex c ls') = if ls'.length = ls.length then .ex c (AV.back ρ avs (maskL ls ls')) else .st := by
  cases ls <;> rfl
def callK0 (g : List LV → CR) (avs : List AV) (ρ : Env) (o : Option (List LV)) : ER LV := match o with
  | some ls => if (AV.refs avs).Nodup then callK avs ρ ls (g ls) else .st
  | none => .st
theorem callE_k (g : List LV → CR) (avs : List AV) (ρ : Env) : callE g avs ρ = callK0 g avs ρ (AV.lvs ρ avs) := by
  unfold callE callK0
  cases AV.lvs ρ avs with
  | none => rfl
  | some ls =>
    dsimp only
    split
    · unfold callK
      cases g ls <;> rfl
    · rfl
theorem callK0_some (g : List LV → CR) (avs : List AV) (ρ : Env) (ls : List LV) : callK0 g avs ρ (some ls) = if (AV.refs avs).Nodup then callK avs ρ ls (g ls) else .st := by
  cases ls <;> rfl
def bindK (f : Env → SO) (o : Option Env) : SO := match o with
  | some ρ => f ρ
  | none => .st
theorem bindS_k (f : Env → SO) (t : Tg) (x : PV) (ρ : Env) : bindS f t x ρ = bindK f (t.bind x ρ) := by
  unfold bindS bindK
  cases t.bind x ρ <;> rfl
theorem bindK_some (f : Env → SO) (ρ : Env) : bindK f (some ρ) = f ρ := by
  cases ρ <;> rfl
theorem bindK_none (f : Env → SO) : bindK f none = .st := rfl
def SO.seq (r : SO) (k : Env → SO) : SO := match r with
  | .nx ρ => k ρ
  | r => r
theorem SO.seq_nx (ρ : Env) (k : Env → SO) : (SO.nx ρ).seq k = k ρ := rfl
theorem SO.seq_rt (l : LV) (ρ : Env) (k : Env → SO) : (SO.rt l ρ).seq k = .rt l ρ := rfl
theorem SO.seq_ex (l : Str) (ρ : Env) (k : Env → SO) : (SO.ex l ρ).seq k = .ex l ρ := rfl
theorem SO.seq_bk (ρ : Env) (k : Env → SO) : (SO.bk ρ).seq k = .bk ρ := rfl
theorem SO.seq_ct (ρ : Env) (k : Env → SO) : (SO.ct ρ).seq k = .ct ρ := rfl
theorem SO.seq_st (k : Env → SO) : SO.st.seq k = .st := rfl
theorem exSs_nil (Φ : Nat → List LV → CR) (n : Nat) (ρ : Env) : exSs Φ n [] ρ = .nx ρ := by unfold exSs; rfl
theorem exSs_cons (Φ : Nat → List LV → CR) (n : Nat) (s : St) (ss : List St) (ρ : Env) : exSs Φ n (s :: ss) ρ = (exS Φ n s ρ).seq (exSs Φ n ss) := by
  rw [exSs]
  cases exS Φ n s ρ <;> rfl
def SO.fin (np : Nat) (r : SO) : CR := match r with
  | .nx ρ => match lvsOf ρ np with
    | some as => .ok (.fro .non) as
    | none => .st
  | .rt l ρ => match lvsOf ρ np with
    | some as => .ok l as
    | none => .st
  | .ex c ρ => match lvsOf ρ np with
    | some as => .ex c as
    | none => .st
  | _ => .st
theorem SO.fin_nx (np : Nat) (ρ : Env) : (SO.nx ρ).fin np = match lvsOf ρ np with
    | some as => .ok (.fro .non) as
    | none => .st := rfl
theorem SO.fin_rt (np : Nat) (l : LV) (ρ : Env) : (SO.rt l ρ).fin np = match lvsOf ρ np with
    | some as => .ok l as
    | none => .st := rfl
theorem SO.fin_ex (np : Nat) (l : Str) (ρ : Env) : (SO.ex l ρ).fin np = match lvsOf ρ np with
    | some as => .ex l as
    | none => .st := rfl
theorem runFn_eq (Φ : Nat → List LV → CR) (n : Nat) (f : Fn) (ls : List LV) (h : ls.length = f.np ∧ f.np ≤ f.nn ∧ ioOk f.io 0 ls = true) : runFn Φ n f ls = (exSs Φ n f.body (Br.frameOf f ls)).fin f.np := by
  unfold runFn
  rw [if_pos h]
  unfold SO.fin
  cases exSs Φ n f.body (Br.frameOf f ls) <;> rfl
theorem kit_NoneType_int : kitB "NoneType" "int" = some false := by decide +kernel
theorem kit_NoneType_bool : kitB "NoneType" "bool" = some false := by decide +kernel
theorem kit_NoneType_str : kitB "NoneType" "str" = some false := by decide +kernel
theorem kit_NoneType_tuple : kitB "NoneType" "tuple" = some false := by decide +kernel
theorem kit_NoneType_list : kitB "NoneType" "list" = some false := by decide +kernel
theorem kit_NoneType_dict : kitB "NoneType" "dict" = some false := by decide +kernel
theorem kit_bool_int : kitB "bool" "int" = some true := by decide +kernel
theorem kit_bool_bool : kitB "bool" "bool" = some true := by decide +kernel
theorem kit_bool_str : kitB "bool" "str" = some false := by decide +kernel
theorem kit_bool_tuple : kitB "bool" "tuple" = some false := by decide +kernel
theorem kit_bool_list : kitB "bool" "list" = some false := by decide +kernel
theorem kit_bool_dict : kitB "bool" "dict" = some false := by decide +kernel
theorem kit_int_int : kitB "int" "int" = some true := by decide +kernel
theorem kit_int_bool : kitB "int" "bool" = some false := by decide +kernel
theorem kit_int_str : kitB "int" "str" = some false := by decide +kernel
theorem kit_int_tuple : kitB "int" "tuple" = some false := by decide +kernel
theorem kit_int_list : kitB "int" "list" = some false := by decide +kernel
theorem kit_int_dict : kitB "int" "dict" = some false := by decide +kernel
theorem kit_str_int : kitB "str" "int" = some false := by decide +kernel
theorem kit_str_bool : kitB "str" "bool" = some false := by decide +kernel
theorem kit_str_str : kitB "str" "str" = some true := by decide +kernel
theorem kit_str_tuple : kitB "str" "tuple" = some false := by decide +kernel
theorem kit_str_list : kitB "str" "list" = some false := by decide +kernel
theorem kit_str_dict : kitB "str" "dict" = some false := by decide +kernel
theorem kit_tuple_int : kitB "tuple" "int" = some false := by decide +kernel
theorem kit_tuple_bool : kitB "tuple" "bool" = some false := by decide +kernel
theorem kit_tuple_str : kitB "tuple" "str" = some false := by decide +kernel
theorem kit_tuple_tuple : kitB "tuple" "tuple" = some true := by decide +kernel
theorem kit_tuple_list : kitB "tuple" "list" = some false := by decide +kernel
theorem kit_tuple_dict : kitB "tuple" "dict" = some false := by decide +kernel
theorem kit_list_int : kitB "list" "int" = some false := by decide +kernel
theorem kit_list_bool : kitB "list" "bool" = some false := by decide +kernel
theorem kit_list_str : kitB "list" "str" = some false := by decide +kernel
theorem kit_list_tuple : kitB "list" "tuple" = some false := by decide +kernel
theorem kit_list_list : kitB "list" "list" = some true := by decide +kernel
theorem kit_list_dict : kitB "list" "dict" = some false := by decide +kernel
theorem kit_dict_int : kitB "dict" "int" = some false := by decide +kernel
theorem kit_dict_bool : kitB "dict" "bool" = some false := by decide +kernel
theorem kit_dict_str : kitB "dict" "str" = some false := by decide +kernel
theorem kit_dict_tuple : kitB "dict" "tuple" = some false := by decide +kernel
theorem kit_dict_list : kitB "dict" "list" = some false := by decide +kernel
theorem kit_dict_dict : kitB "dict" "dict" = some true := by decide +kernel
def froO (x : Option (Option LV)) : Option LV := match x with
  | some (some (.fro p)) => some (.fro p)
  | _ => none
theorem froO_f (p : PV) : froO (some (some (.fro p))) = some (.fro p) := rfl
theorem froO_n : froO (some none) = none := rfl
theorem froO_0 : froO none = none := rfl
theorem froO_o (p : PV) : froO (some (some (.own p))) = none := rfl
theorem backE_nil (ρ ρ' : Env) : backE ρ ρ' [] = ρ' := by unfold backE; rfl
theorem backE_cons (ρ ρ' : Env) (v : Nat) (vs : List Nat) : backE ρ ρ' (v :: vs) = (backE ρ ρ' vs).set v (froO ρ[v]?) := by
  rw [backE]
  unfold froO
  split <;> simp_all
theorem compL_map {f : PV → Env → ER (Option PV)} {h : PV → PV} {ρ : Env} : ∀ {xs : List PV}, (∀ x ∈ xs, f x ρ = .ok (some (h x)) ρ) → compL f xs ρ = .ok (xs.map h) ρ
  | [], _ => rfl
  | x :: xs, H => by
    unfold compL
    rw [H x (by simp)]
    dsimp only
    rw [compL_map fun y hy => H y (by simp [hy])]
    rfl
/-- a loop whose body goes on -/
theorem forL_inv {f : PV → Env → SO} {xs : List PV} {ρ : Env} (I : Nat → Env → Prop) (h0 : I 0 ρ) (step : ∀ i x ρ, xs[i]? = some x → I i ρ → ∃ ρ', (f x ρ = .nx ρ' ∨ f x ρ = .ct ρ') ∧ I (i + 1) ρ') : ∃ ρ', forL f xs ρ = .nx ρ' ∧ I xs.length ρ' := by
  induction xs generalizing ρ I with
  | nil => exact ⟨ρ, rfl, h0⟩
  | cons x xs ih =>
    obtain ⟨ρ1, h1, i1⟩ := step 0 x ρ rfl h0
    obtain ⟨ρ2, h2, i2⟩ := ih (fun i => I (i + 1)) i1 fun i y ρ hy hi => step (i + 1) y ρ (by simpa using hy) hi
    refine ⟨ρ2, ?_, by simpa using i2⟩
    unfold forL
    rcases h1 with h1 | h1 <;> rw [h1] <;> exact h2
/-- an int, a bool, a list read off -/
def PV.i : PV → Int
  | .int i => i
  | _ => 0
theorem PV.i_int (i : Int) : (PV.int i).i = i := rfl
theorem rngP_at {a b : Int} {i : Nat} {x : PV} (h : (rngP a b)[i]? = some x) : x = .int (a + (i : Nat)) ∧ (i : Int) < b - a := by
  have h1 := (List.getElem?_eq_some_iff.mp h).1
  have hlen : (rngP a b).length = (b - a).toNat := by simp [rngP]
  rw [hlen] at h1
  have h2 := (List.getElem?_eq_some_iff.mp h).2
  refine ⟨?_, by omega⟩
  rw [← h2]
  simp [rngP]
theorem rngP_len (a b : Int) : (rngP a b).length = (b - a).toNat := by simp [rngP]
theorem log2_lt_9000 {n : Nat} (h : n < 2 ^ 256) : n.log2 < 9000 := by
  by_cases h0 : n = 0
  · subst h0; simp
  · have := (Nat.log2_lt h0).mpr h
    omega
theorem atI_n {α : Type} (l : List α) (k : Nat) (x : α) (h : l[k]? = some x) : L2.atI l (k : Int) = some x := by
  have hk := (List.getElem?_eq_some_iff.mp h).1
  unfold L2.atI L2.ixN
  rw [if_pos (by omega), if_pos (by omega)]
  simpa using h
theorem atI_0 {α : Type} (x : α) (l : List α) : L2.atI (x :: l) 0 = some x := atI_n _ 0 _ rfl
theorem atI_1 {α : Type} (x y : α) (l : List α) : L2.atI (x :: y :: l) 1 = some y := atI_n _ 1 _ rfl
theorem atI_2 {α : Type} (x y z : α) (l : List α) : L2.atI (x :: y :: z :: l) 2 = some z := atI_n _ 2 _ rfl
theorem rng_ok {a : Int} (h1 : -4611686018427387904 ≤ a) (h2 : a < 4611686018427387904) : rngOk a := ⟨by omega, by omega⟩
theorem mul_ok_r {x y : Int} (h : y.natAbs < 18446744073709551616) : mulOk x y := .inr (.inl (by omega))
theorem mul_ok_l {x y : Int} (h : x.natAbs < 18446744073709551616) : mulOk x y := .inl (by omega)
/-! equality -/
def eqPs (l m : List PV) : Bool := PyData.eqvAll (PV.toDs l) (PV.toDs m)
theorem eqP_ii (a b : Int) : eqP (.int a) (.int b) = decide (a = b) := by
  unfold eqP PV.toD
  rw [PyData.eqv]
  rfl
theorem eqP_ss (a b : Str) : eqP (.str a) (.str b) = decide (a = b) := by
  unfold eqP PV.toD
  rw [PyData.eqv]
  by_cases h : a = b
  · subst h; simp
  · rw [decide_eq_false h]; exact beq_eq_false_iff_ne.mpr h
theorem eqP_bb (a b : Bool) : eqP (.bl a) (.bl b) = (a == b) := by
  unfold eqP PV.toD
  rw [PyData.eqv]
theorem eqP_nn : eqP .non .non = true := by
  unfold eqP PV.toD
  rw [PyData.eqv]
theorem eqP_tt (a b : List PV) : eqP (.tup a) (.tup b) = eqPs a b := by
  unfold eqP eqPs
  rw [PV.toD, PV.toD, PyData.eqv]
theorem eqP_ll (a b : List PV) : eqP (.lst a) (.lst b) = eqPs a b := by
  unfold eqP eqPs
  rw [PV.toD, PV.toD, PyData.eqv]
theorem eqPs_00 : eqPs [] [] = true := by
  unfold eqPs
  rw [PV.toDs, PyData.eqvAll]
theorem eqPs_0c (y : PV) (ys : List PV) : eqPs [] (y :: ys) = false := by
  unfold eqPs
  rw [PV.toDs, PV.toDs, PyData.eqvAll]
theorem eqPs_c0 (y : PV) (ys : List PV) : eqPs (y :: ys) [] = false := by
  unfold eqPs
  rw [PV.toDs, PV.toDs, PyData.eqvAll]
theorem eqPs_cc (x y : PV) (xs ys : List PV) : eqPs (x :: xs) (y :: ys) = (eqP x y && eqPs xs ys) := by
  unfold eqPs eqP
  rw [PV.toDs, PV.toDs, PyData.eqvAll]
theorem eqPs_ints : ∀ (l m : List Int), eqPs (l.map .int) (m.map .int) = decide (l = m)
  | [], [] => by simp [eqPs_00]
  | [], _ :: _ => by simp [eqPs_0c]
  | _ :: _, [] => by simp [eqPs_c0]
  | x :: xs, y :: ys => by simp [eqPs_cc, eqP_ii, eqPs_ints xs ys]
theorem eqP_xl (a : List PV) (q : PV) : eqP (.xt a) q = eqP (.tup a) q := by
  unfold eqP
  rw [show (PV.xt a).toD = (PV.tup a).toD from toD_dn (.xt a) ▸ rfl]
theorem eqP_xr (a : List PV) (q : PV) : eqP q (.xt a) = eqP q (.tup a) := by
  unfold eqP
  rw [show (PV.xt a).toD = (PV.tup a).toD from toD_dn (.xt a) ▸ rfl]
theorem eqP_ni  (b : Int) : eqP (.non) (.int b) = false := by
  unfold eqP
  rw [PV.toD, PV.toD, PyData.eqv] <;> (intro _ h; cases h)
theorem eqP_ns  (b : Str) : eqP (.non) (.str b) = false := by
  unfold eqP
  rw [PV.toD, PV.toD, PyData.eqv] <;> (intro _ h; cases h)
theorem eqP_nt  (b : List PV) : eqP (.non) (.tup b) = false := by
  unfold eqP
  rw [PV.toD, PV.toD, PyData.eqv] <;> (intro _ h; cases h)
theorem eqP_nl  (b : List PV) : eqP (.non) (.lst b) = false := by
  unfold eqP
  rw [PV.toD, PV.toD, PyData.eqv] <;> (intro _ h; cases h)
theorem eqP_nb  (b : Bool) : eqP (.non) (.bl b) = false := by
  unfold eqP
  rw [PV.toD, PV.toD, PyData.eqv] <;> (intro _ h; cases h)
theorem eqP_in (a : Int)  : eqP (.int a) (.non) = false := by
  unfold eqP
  rw [PV.toD, PV.toD, PyData.eqv] <;> (intro _ h; cases h)
theorem eqP_is (a : Int) (b : Str) : eqP (.int a) (.str b) = false := by
  unfold eqP
  rw [PV.toD, PV.toD, PyData.eqv] <;> (intro _ h; cases h)
theorem eqP_it (a : Int) (b : List PV) : eqP (.int a) (.tup b) = false := by
  unfold eqP
  rw [PV.toD, PV.toD, PyData.eqv] <;> (intro _ h; cases h)
theorem eqP_il (a : Int) (b : List PV) : eqP (.int a) (.lst b) = false := by
  unfold eqP
  rw [PV.toD, PV.toD, PyData.eqv] <;> (intro _ h; cases h)
theorem eqP_sn (a : Str)  : eqP (.str a) (.non) = false := by
  unfold eqP
  rw [PV.toD, PV.toD, PyData.eqv] <;> (intro _ h; cases h)
theorem eqP_si (a : Str) (b : Int) : eqP (.str a) (.int b) = false := by
  unfold eqP
  rw [PV.toD, PV.toD, PyData.eqv] <;> (intro _ h; cases h)
theorem eqP_st (a : Str) (b : List PV) : eqP (.str a) (.tup b) = false := by
  unfold eqP
  rw [PV.toD, PV.toD, PyData.eqv] <;> (intro _ h; cases h)
theorem eqP_sl (a : Str) (b : List PV) : eqP (.str a) (.lst b) = false := by
  unfold eqP
  rw [PV.toD, PV.toD, PyData.eqv] <;> (intro _ h; cases h)
theorem eqP_sb (a : Str) (b : Bool) : eqP (.str a) (.bl b) = false := by
  unfold eqP
  rw [PV.toD, PV.toD, PyData.eqv] <;> (intro _ h; cases h)
theorem eqP_tn (a : List PV)  : eqP (.tup a) (.non) = false := by
  unfold eqP
  rw [PV.toD, PV.toD, PyData.eqv] <;> (intro _ h; cases h)
theorem eqP_ti (a : List PV) (b : Int) : eqP (.tup a) (.int b) = false := by
  unfold eqP
  rw [PV.toD, PV.toD, PyData.eqv] <;> (intro _ h; cases h)
theorem eqP_ts (a : List PV) (b : Str) : eqP (.tup a) (.str b) = false := by
  unfold eqP
  rw [PV.toD, PV.toD, PyData.eqv] <;> (intro _ h; cases h)
theorem eqP_tl (a : List PV) (b : List PV) : eqP (.tup a) (.lst b) = false := by
  unfold eqP
  rw [PV.toD, PV.toD, PyData.eqv] <;> (intro _ h; cases h)
theorem eqP_tb (a : List PV) (b : Bool) : eqP (.tup a) (.bl b) = false := by
  unfold eqP
  rw [PV.toD, PV.toD, PyData.eqv] <;> (intro _ h; cases h)
theorem eqP_ln (a : List PV)  : eqP (.lst a) (.non) = false := by
  unfold eqP
  rw [PV.toD, PV.toD, PyData.eqv] <;> (intro _ h; cases h)
theorem eqP_li (a : List PV) (b : Int) : eqP (.lst a) (.int b) = false := by
  unfold eqP
  rw [PV.toD, PV.toD, PyData.eqv] <;> (intro _ h; cases h)
theorem eqP_ls (a : List PV) (b : Str) : eqP (.lst a) (.str b) = false := by
  unfold eqP
  rw [PV.toD, PV.toD, PyData.eqv] <;> (intro _ h; cases h)
theorem eqP_lt (a : List PV) (b : List PV) : eqP (.lst a) (.tup b) = false := by
  unfold eqP
  rw [PV.toD, PV.toD, PyData.eqv] <;> (intro _ h; cases h)
theorem eqP_lb (a : List PV) (b : Bool) : eqP (.lst a) (.bl b) = false := by
  unfold eqP
  rw [PV.toD, PV.toD, PyData.eqv] <;> (intro _ h; cases h)
theorem eqP_bn (a : Bool)  : eqP (.bl a) (.non) = false := by
  unfold eqP
  rw [PV.toD, PV.toD, PyData.eqv] <;> (intro _ h; cases h)
theorem eqP_bs (a : Bool) (b : Str) : eqP (.bl a) (.str b) = false := by
  unfold eqP
  rw [PV.toD, PV.toD, PyData.eqv] <;> (intro _ h; cases h)
theorem eqP_bt (a : Bool) (b : List PV) : eqP (.bl a) (.tup b) = false := by
  unfold eqP
  rw [PV.toD, PV.toD, PyData.eqv] <;> (intro _ h; cases h)
theorem eqP_bl (a : Bool) (b : List PV) : eqP (.bl a) (.lst b) = false := by
  unfold eqP
  rw [PV.toD, PV.toD, PyData.eqv] <;> (intro _ h; cases h)
section
variable (Φ : Nat → List LV → CR) (n : Nat)
/-! instances -/
def kMc (j i : Nat) (avs : List AV) (ρ : Env) : ER LV := callE (Φ j) (.ref i :: avs) ρ
def kMk (j : Nat) (c : Str) (avs : List AV) (ρ : Env) : ER LV := madeT (callE (Φ j) (.ref 0 :: avs.map AV.sh) (some (.ins c [] []) :: ρ))
theorem l_mcall' (j i : Nat) (c : Str) (ns : List Str) (as : List Arg) (ρ : Env) : evL Φ (.mcall j i c ns as) ρ = if insAt ρ i c ns = true then (evAs Φ as ρ).bind (kMc Φ j i) else .st := rfl
theorem v_mcall (j i : Nat) (c : Str) (ns : List Str) (as : List Arg) (ρ : Env) : evE Φ (.mcall j i c ns as) ρ = froE (evL Φ (.mcall j i c ns as) ρ) := by
  rw [l_mcall', evE]
  by_cases h : insAt ρ i c ns = true
  · rw [if_pos h, if_pos h]
    unfold froE
    rw [ER.assoc]
    rfl
  · rw [if_neg h, if_neg h]
    rfl
theorem l_make' (j : Nat) (c : Str) (as : List Arg) (ρ : Env) : evL Φ (.make j c as) ρ = (evAs Φ as ρ).bind (kMk Φ j c) := rfl
theorem madeT_ok (l : LV) (ρ : Env) : madeT (.ok (.fro .non) (some l :: ρ)) = .ok l ρ := by rfl
theorem madeT_st : madeT .st = .st := by rfl
theorem v_fld (i : Nat) (c : Str) (ns : List Str) (k : Nat) (ρ : Env) : evE Φ (.fld i c ns k) ρ = fldE ((insLs ρ i c ns).bind fun ls => ls[k]?) ρ := by rw [evE]
theorem fldE_some (p : PV) (ρ : Env) : fldE (some (.fro p)) ρ = .ok p ρ := by rfl
theorem l_fld (i : Nat) (c : Str) (ns : List Str) (k : Nat) (ρ : Env) : evL Φ (.fld i c ns k) ρ = (evE Φ (.fld i c ns k) ρ).bind kFro := rfl
theorem v_fop (o : Op) (i : Nat) (c : Str) (ns : List Str) (k : Nat) (ρ : Env) : evE Φ (.fop o i c ns k) ρ = ER.of (fldO o ((insLs ρ i c ns).bind fun ls => ls[k]?)) ρ := by rw [evE]
theorem fldO_fro (o : Op) (p : PV) : fldO o (some (.fro p)) = opX o [p] := by rfl
theorem fldO_own (o : Op) (p : PV) : fldO o (some (.own p)) = opX o [p] := by rfl
theorem l_fop' (o : Op) (i : Nat) (c : Str) (ns : List Str) (k : Nat) (ρ : Env) : evL Φ (.fop o i c ns k) ρ = (evE Φ (.fop o i c ns k) ρ).bind (kOwnV o) := rfl
theorem x_fset (i : Nat) (c : Str) (ns : List Str) (k : Nat) (e : Ex) (ρ : Env) : exS Φ n (.fset i c ns k e) ρ = (evL Φ e ρ).so (fsetS i c ns k) := by rw [exS]
theorem x_fnew (i : Nat) (c : Str) (ns : List Str) (f : Str) (e : Ex) (ρ : Env) : exS Φ n (.fnew i c ns f e) ρ = (evL Φ e ρ).so (fnewS i c ns f) := by rw [exS]
theorem x_fappV (i : Nat) (c : Str) (ns : List Str) (k j : Nat) (ρ : Env) : exS Φ n (.fappV i c ns k j) ρ = fappS i c ns k (froAt ρ j) ρ := by rw [exS]
theorem x_fappT (i : Nat) (c : Str) (ns : List Str) (k g : Nat) (ρ : Env) : exS Φ n (.fappT i c ns k g) ρ = fappS i c ns k ((fldO .sorted ((insLs ρ i c ns).bind fun ls => ls[g]?)).bind fun r => opX .tuple1 [r]) ρ := by rw [exS]
theorem v_frz (e : Ex) (ρ : Env) : evE Φ (.frz e) ρ = evE Φ e ρ := by rw [evE]
theorem l_frz' (e : Ex) (ρ : Env) : evL Φ (.frz e) ρ = (evE Φ e ρ).bind kFro := by
  show (evE Φ (.frz e) ρ).bind _ = _
  rw [v_frz]
  rfl
theorem v_ofld (i : Nat) (c : Str) (ns : List Str) (k : Nat) (ρ : Env) : evE Φ (.ofld i c ns k) ρ = ER.of (ofldP (at' ρ i) c ns k) ρ := by rw [evE]
theorem l_ofld (i : Nat) (c : Str) (ns : List Str) (k : Nat) (ρ : Env) : evL Φ (.ofld i c ns k) ρ = (evE Φ (.ofld i c ns k) ρ).bind kFro := rfl
theorem v_fix (i : Nat) (c : Str) (ns : List Str) (k : Nat) (ix : Nat ⊕ Int) (ρ : Env) : evE Φ (.fix i c ns k ix) ρ = ER.of (fixP ((insLs ρ i c ns).bind fun ls => ls[k]?) (ixOf ρ ix)) ρ := by rw [evE]
theorem l_fix (i : Nat) (c : Str) (ns : List Str) (k : Nat) (ix : Nat ⊕ Int) (ρ : Env) : evL Φ (.fix i c ns k ix) ρ = (evE Φ (.fix i c ns k ix) ρ).bind kFro := rfl
theorem fixP_s (l : List PV) (j : Int) : fixP (some (.own (.lst l))) (some j) = atI l j := rfl
theorem ixOf_l (ρ : Env) (j : Nat) : ixOf ρ (.inl j) = slotInt ρ j := rfl
theorem ixOf_r (ρ : Env) (j : Int) : ixOf ρ (.inr j) = some j := rfl
theorem ofldP_s (c d : Str) (ns ms : List Str) (ps : List PV) (k : Nat) : ofldP (some (.fro (.obj d ms ps))) c ns k = if d = c ∧ ms = ns then ps[k]? else none := rfl
def kMr (j i : Nat) (c : Str) (ns : List Str) (avs : List AV) (ρ : Env) : ER LV := callR (Φ j) i c ns avs ρ
theorem l_mcallR' (j i : Nat) (c : Str) (ns : List Str) (as : List Arg) (ρ : Env) : evL Φ (.mcallR j i c ns as) ρ = if insAt ρ i c ns = true then (evAs Φ as ρ).bind (kMr Φ j i c ns) else .st := rfl
theorem v_mcallR (j i : Nat) (c : Str) (ns : List Str) (as : List Arg) (ρ : Env) : evE Φ (.mcallR j i c ns as) ρ = froE (evL Φ (.mcallR j i c ns as) ρ) := by
  rw [l_mcallR', evE]
  by_cases h : insAt ρ i c ns = true
  · rw [if_pos h, if_pos h]
    unfold froE
    rw [ER.assoc]
    rfl
  · rw [if_neg h, if_neg h]
    rfl
def callR2 (r : CR) (ρ : Env) : ER LV := match r with
  | .ok r _ => if r.bare = true then .ok r ρ else .st
  | _ => .st
theorem callR2_ok (r : LV) (as : List LV) (ρ : Env) : callR2 (.ok r as) ρ = if r.bare = true then .ok r ρ else .st := rfl
def callR1 (g : List LV → CR) (c : Str) (ns : List Str) (o : Option (List PV)) (p : Option (List LV)) (ρ : Env) : ER LV := match o, p with
  | some ps, some ls => if ls.all LV.isFro = true then callR2 (g (.fro (.obj c ns ps) :: ls)) ρ else .st
  | _, _ => .st
theorem callR_k (g : List LV → CR) (i : Nat) (c : Str) (ns : List Str) (avs : List AV) (ρ : Env) : callR g i c ns avs ρ = callR1 g c ns ((insLs ρ i c ns).bind pvsL) (AV.lvs ρ avs) ρ := rfl
theorem callR1_s (g : List LV → CR) (c : Str) (ns : List Str) (ps : List PV) (ls : List LV) (ρ : Env) : callR1 g c ns (some ps) (some ls) ρ = if ls.all LV.isFro = true then callR2 (g (.fro (.obj c ns ps) :: ls)) ρ else .st := rfl
theorem pvsL_0 : pvsL [] = some [] := rfl
theorem pvsL_f (p : PV) (ls : List LV) : pvsL (.fro p :: ls) = (pvsL ls).map (p :: ·) := by
  show (match (some p : Option PV), pvsL ls with | some p, some ps => some (p :: ps) | _, _ => none) = _
  cases pvsL ls <;> rfl
theorem pvsL_o (p : PV) (ls : List LV) : pvsL (.own p :: ls) = (pvsL ls).map (p :: ·) := by
  show (match (some p : Option PV), pvsL ls with | some p, some ps => some (p :: ps) | _, _ => none) = _
  cases pvsL ls <;> rfl
theorem bare_f (p : PV) : LV.bare (.fro p) = p.bare := rfl
theorem bare_l (l : List PV) : LV.bare (.own (.lst l)) = l.all PV.bare := rfl
theorem bare_i (ns : List Int) : (ns.map PV.int).all PV.bare = true := by
  rw [List.all_eq_true]
  intro x hx
  obtain ⟨n, _, rfl⟩ := List.mem_map.mp hx
  rfl
theorem x_fsetIx (i : Nat) (c : Str) (ns : List Str) (k : Nat) (ix : Nat ⊕ Int) (e : Ex) (ρ : Env) : exS Φ n (.fsetIx i c ns k ix e) ρ = (evE Φ e ρ).so (fsetIxS i c ns k ix) := by rw [exS]
def kFa (i : Nat) (c : Str) (ns : List Str) (k : Nat) (e : Ex) (ρ : Env) (ls : List LV) (o : Option LV) : SO := match o with
  | some (.own (.lst l)) => (evE Φ e (ρ.set i none)).calm.so (fappES i c ns k ls l)
  | _ => .st
theorem kFa_l (i : Nat) (c : Str) (ns : List Str) (k : Nat) (e : Ex) (ρ : Env) (ls : List LV) (l : List PV) : kFa Φ i c ns k e ρ ls (some (.own (.lst l))) = (evE Φ e (ρ.set i none)).calm.so (fappES i c ns k ls l) := rfl
def kFa0 (i : Nat) (c : Str) (ns : List Str) (k : Nat) (e : Ex) (ρ : Env) (o : Option (List LV)) : SO := match o with
  | some ls => kFa Φ i c ns k e ρ ls ls[k]?
  | none => .st
theorem kFa0_s (i : Nat) (c : Str) (ns : List Str) (k : Nat) (e : Ex) (ρ : Env) (ls : List LV) : kFa0 Φ i c ns k e ρ (some ls) = kFa Φ i c ns k e ρ ls ls[k]? := rfl
theorem x_fappE (i : Nat) (c : Str) (ns : List Str) (k : Nat) (e : Ex) (ρ : Env) : exS Φ n (.fappE i c ns k e) ρ = kFa0 Φ i c ns k e ρ (insLs ρ i c ns) := by
  rw [exS]
  cases insLs ρ i c ns with
  | none => rfl
  | some ls =>
    show (match ls[k]? with | some (.own (.lst l)) => _ | _ => _) = kFa Φ i c ns k e ρ ls ls[k]?
    cases ls[k]? with
    | none => rfl
    | some l =>
      cases l with
      | own p => cases p <;> rfl
      | _ => rfl
end
end Br
set_option maxHeartbeats 0
namespace Lk05
set_option maxHeartbeats 0
open PySem PySem.Spec PyProof.Rows L2 Br
/-! what stands behind the top -/
def top (i : Nat) : Stmt := PySem.Challenge.pw_brimyard_k05_refusals_apart.main.body.getD i (.Pass ⟨0, 0, 0, 0⟩)
abbrev s__law_marks : Stmt := top 19
abbrev s__law_mixed : Stmt := top 16
abbrev s__law_signs : Stmt := top 18
abbrev s_greatest_part : Stmt := top 13
abbrev s__law_draws : Stmt := top 17
abbrev s_ratio_of : Stmt := top 14
abbrev s_law : Stmt := top 20
/-! the head -/
def fn : List He.DefD := [⟨("_law_marks", none), "_law_marks", "_law_marks", defArgs s__law_marks, defBody s__law_marks, defScope s__law_marks, [], []⟩,
  ⟨("_law_mixed", none), "_law_mixed", "_law_mixed", defArgs s__law_mixed, defBody s__law_mixed, defScope s__law_mixed, [], []⟩,
  ⟨("_law_signs", none), "_law_signs", "_law_signs", defArgs s__law_signs, defBody s__law_signs, defScope s__law_signs, [], []⟩,
  ⟨("greatest_part", none), "greatest_part", "greatest_part", defArgs s_greatest_part, defBody s_greatest_part, defScope s_greatest_part, [], []⟩,
  ⟨("_law_draws", none), "_law_draws", "_law_draws", defArgs s__law_draws, defBody s__law_draws, defScope s__law_draws, [], []⟩,
  ⟨("ratio_of", none), "ratio_of", "ratio_of", defArgs s_ratio_of, defBody s_ratio_of, defScope s_ratio_of, [], []⟩,
  ⟨("law", none), "law", "law", defArgs s_law, defBody s_law, defScope s_law, [], []⟩]
def fa : List He.Fa := ([.glo "_law_marks", .glo "_law_mixed", .glo "_law_signs", .glo "greatest_part", .glo "_law_draws", .glo "ratio_of", .glo "law", .free "ValueError", .free "abs", .free "int", .free "isinstance", .free "len", .free "range", .exc "NoBack", .exc "NoHeap", .exc "NoLot", .exc "NoRatio", .exc "NoRow", .exc "NoSize", .exc "NoText", .exc "TooFew", .exc "TooMany", .exc "Unlike", .glo "NoBack", .glo "NoHeap", .glo "NoLot", .glo "NoRatio", .glo "NoRow", .glo "NoSize", .glo "NoText"] : List He.Fa) ++ ([.glo "TooFew", .glo "TooMany", .glo "Unlike", .glo "BrimError", .glo "NoBack", .glo "NoHeap", .glo "NoLot", .glo "NoRatio", .glo "NoRow", .glo "NoSize", .glo "NoText", .glo "TooFew", .glo "TooMany", .glo "Unlike"] : List He.Fa)
abbrev R : PySem.W.OpenRow := PySem.W.OpenLaw.row PySem.Challenge.rw_brimyard_k05_refusals_apart
abbrev hk : PySem.W.Hook := hookX 4 (exB ["NoRatio", "NoHeap", "NoLot", "Unlike", "TooMany", "NoSize", "TooFew", "NoText", "NoRow", "NoBack"]) fa fn
def ob (s : PySem.W.SharedT) : AlX := obsX 4 (exB ["NoRatio", "NoHeap", "NoLot", "Unlike", "TooMany", "NoSize", "TooFew", "NoText", "NoRow", "NoBack"]) fa fn (HandSHeadRun.getT s)
theorem ob_eq (s : PySem.W.SharedT) : ob s = hk.obs s.abs := obsX_eq (HandSHeadRun.getT_eq s)
theorem run (w : World) : HandSHeadRun.RunEq R (PySem.W.view R.prog [20]) hk ob 2920 ["BrimError", "NoRatio", "NoHeap", "NoLot", "Unlike", "TooMany", "NoSize", "TooFew", "NoText", "NoRow", "NoBack", "greatest_part", "ratio_of", "_law_mixed", "_law_draws", "_law_signs", "_law_marks"] w := by
  intro os
  kernel_rfl
end Lk05
namespace Cm
open PySem Br
local macro_rules
| `(tactic| simp -implicitDefEqProofs [evx, $xs,*]) => `(tactic| simp -implicitDefEqProofs [ioOk, Br.frameOf, lvsOf, Br.exSs_nil, Br.exSs_cons, SO.seq_nx, SO.seq_rt, SO.seq_ex, SO.seq_bk, SO.seq_ct, SO.seq_st, SO.fin_nx, SO.fin_rt, SO.fin_ex, Br.v_app, Br.v_mth, Br.v_tup, Br.v_lst, Br.v_cst, Br.v_dnew, Br.v_var, Br.v_call, Br.v_and, Br.v_or, Br.v_not, Br.v_ite, Br.v_chain, Br.v_chain3, Br.kCh33, Br.kCh32b, Br.kCh32, Br.kCh31, Br.v_sl2, Br.v_comp, Br.v_compK, Br.v_compO, Br.kCO_l, Br.putO_ok, Br.kCK_d, Br.kCK_t, Br.lockE_ok, Br.v_aref, Br.v_aval, Br.v_as0, Br.v_as, Br.v_es0, Br.v_es, Br.v_tand, Br.v_tor, Br.v_tnot, Br.v_te, Br.v_ts0, Br.v_ts1, Br.v_seq, Br.v_seqS, Br.kSeqS, Br.v_rng1, Br.v_rng2, Br.v_enum, Br.v_zip, Br.v_popE, Br.v_dispV, Br.l_dispV', Br.v_popD, Br.l_popD, Br.kPopD_eq, Br.v_disp1, Br.l_disp1', Br.kD1_eq, Br.kD2_i, Br.calm_ok, Br.v_popL, Br.l_popE, Br.l_popL, Br.kPopE_eq, Br.putE_some, Br.putE_none, Br.v_rev, Br.l_app, Br.l_mth', Br.l_lst', Br.l_dnew', Br.l_call', Br.l_comp', Br.l_compK', Br.l_compO', Br.l_mvv', Br.kMv_o, Br.kMv_f, Br.l_var, Br.l_cst, Br.l_tup, Br.l_and, Br.l_or, Br.l_not, Br.l_ite, Br.l_chain, Br.l_chain3, Br.l_sl2, Br.x_set, Br.x_unp, Br.x_par, Br.x_setIx, Br.x_app, Br.x_ext, Br.x_popA, Br.x_insA, Br.kPopA, Br.kIns1, Br.kIns2, Br.x_ex, Br.x_ret, Br.x_retV, Br.x_retN, Br.x_if, Br.x_whl, Br.x_brk, Br.x_cont, Br.x_pass, Br.x_raise, Br.kOp, Br.kVal, Br.kCons, Br.kAs, Br.kConsE, Br.kEs, Br.kTup, Br.kLst, Br.kCall, Br.kMth2, Br.kMth, Br.kAnd, Br.kOr, Br.kNot, Br.kIte, Br.kCh4, Br.kCh3, Br.kCh2b, Br.kCh2, Br.kCh1, Br.kS3, Br.kS2, Br.kS1, Br.kC6, Br.kC5, Br.kC4, Br.kC3, Br.kC0, Br.kC2, Br.kC1, Br.kTand, Br.kTor, Br.kTnot, Br.kTe, Br.kSeq, Br.kR1, Br.kR3, Br.kR2, Br.kEn, Br.kZ2, Br.kZ1, Br.kRv, Br.kOwn, Br.kFro, Br.kOwnV, Br.kCallL, Br.kSet, Br.kUnp, Br.kPar, Br.kSI2, Br.kSI1, Br.kApp, Br.kExt, Br.kEx, Br.kRet, Br.kIf, Br.kFor, Br.ifE_t, Br.ifE_f, Br.ifS_t, Br.ifS_f, Br.okE_eq, Br.cF, Br.x_for, ne_eq, reduceCtorEq, not_false_eq_true, implies_true, ER.bind_ok, ER.bind_ex, ER.bind_st, ER.so_ok, ER.so_ex, ER.so_st, ER.of_some, ER.of_none, SO.of_some, SO.of_none, Br.bindS_k, Br.bindK_some, Br.bindK_none, Tg.bind, Tg.binds, slotInt, at', setIxP, AV.pvs, AV.pv, AV.lvs, AV.lv, AV.refs, AV.back, maskL, LV.isFro, LV.pv, Br.callE_k, Br.callK0_some, Br.callK_ok, Br.callK_ex, froE, Br.opX_add, Br.opX_sub, Br.opX_mul, Br.opX_fdiv, Br.opX_mod, Br.opX_pow, Br.opX_neg, Br.opX_eq, Br.opX_ne, Br.opX_lt, Br.opX_le, Br.opX_gt, Br.opX_ge, Br.opX_isN, Br.opX_isNN, Br.opX_inn, Br.opX_nin, Br.opX_len, Br.opX_sum, Br.opX_abs, Br.opX_int1, Br.opX_str1, Br.opX_tuple1, Br.opX_list1, Br.opX_sorted, Br.opX_allL, Br.opX_anyL, Br.opX_min2, Br.opX_max2, Br.opX_minL, Br.opX_maxL, Br.opX_idx, Br.opX_rev, Br.opX_dget, Br.opX_values, Br.opX_dmod, Br.opX_lcnt, Br.opX_tcnt, Br.opX_lidx, Br.opX_bits, Br.opX_sortedD, Br.opX_minD, Br.opX_maxD, Br.opX_isB, Br.opX_isNB, Br.opX_isTy, Br.opX_slc, Br.opX_lsetX, Br.opX_slcX, Br.opX_revX, Br.opX_mkX, mkXP, slcXP, revXP, Br.opX_isEx, Br.opX_dict1, Br.opX_dictT, Br.opX_tupleX, Br.dn_non, Br.dn_bl, Br.dn_int, Br.dn_str, Br.dn_ty, Br.dn_exc, Br.dn_tup, Br.dn_xt, Br.dn_lst, Br.dn_dK, Br.dn_dT, Br.dn_dX, Br.dn_dn, Br.isD_dn, Br.eqP_dnl, Br.eqP_dnr, tupleXP, opSem, addP, subP, mulP, fdivP, modP, powP, negP, eqOP, neOP, ltOP, leOP, gtOP, geOP, isNP, isNNP, isBP, isNBP, PV.isNon, lenP, sumP, absP, int1P, str1P, tuple1P, list1P, min2P, max2P, idxP, slcP, slcPart, dmodP, isTyOP, isTys, isTyP, tyName, ownV, Op.new, wipeE, Br.backE_nil, Br.backE_cons, Br.froO_f, Br.froO_n, Br.froO_0, Br.froO_o, seqOf, parE, ownL, ownD, keyP, recvOk, PV.isD, PV.isT, Br.eqP_ii, Br.eqP_ss, Br.eqP_bb, Br.eqP_nn, Br.eqP_tt, Br.eqP_ll, Br.eqPs_00, Br.eqPs_0c, Br.eqPs_c0, Br.eqPs_cc, Br.eqPs_ints, Br.eqP_xl, Br.eqP_xr, Br.eqP_ni, Br.eqP_ns, Br.eqP_nt, Br.eqP_nl, Br.eqP_nb, Br.eqP_in, Br.eqP_is, Br.eqP_it, Br.eqP_il, Br.eqP_sn, Br.eqP_si, Br.eqP_st, Br.eqP_sl, Br.eqP_sb, Br.eqP_tn, Br.eqP_ti, Br.eqP_ts, Br.eqP_tl, Br.eqP_tb, Br.eqP_ln, Br.eqP_li, Br.eqP_ls, Br.eqP_lt, Br.eqP_lb, Br.eqP_bn, Br.eqP_bs, Br.eqP_bt, Br.eqP_bl, intsOf, List.getElem?_cons_zero, List.getElem?_cons_succ, List.getElem?_nil, List.set_cons_zero, List.set_cons_succ, List.map_cons, List.map_nil, List.cons_append, List.nil_append, List.length_cons, List.length_nil, List.replicate_succ, List.replicate_zero, List.append_nil, Option.bind_some, Option.bind_none, Option.map_some, Option.map_none, if_true, if_false, ite_true, ite_false, decide_true, decide_false, Bool.and_true, Bool.true_and, Bool.not_true, Bool.not_false, reduceIte, Option.isSome_some, Br.kit_NoneType_int, Br.kit_NoneType_bool, Br.kit_NoneType_str, Br.kit_NoneType_tuple, Br.kit_NoneType_list, Br.kit_NoneType_dict, Br.kit_bool_int, Br.kit_bool_bool, Br.kit_bool_str, Br.kit_bool_tuple, Br.kit_bool_list, Br.kit_bool_dict, Br.kit_int_int, Br.kit_int_bool, Br.kit_int_str, Br.kit_int_tuple, Br.kit_int_list, Br.kit_int_dict, Br.kit_str_int, Br.kit_str_bool, Br.kit_str_str, Br.kit_str_tuple, Br.kit_str_list, Br.kit_str_dict, Br.kit_tuple_int, Br.kit_tuple_bool, Br.kit_tuple_str, Br.kit_tuple_tuple, Br.kit_tuple_list, Br.kit_tuple_dict, Br.kit_list_int, Br.kit_list_bool, Br.kit_list_str, Br.kit_list_tuple, Br.kit_list_list, Br.kit_list_dict, Br.kit_dict_int, Br.kit_dict_bool, Br.kit_dict_str, Br.kit_dict_tuple, Br.kit_dict_list, Br.kit_dict_dict, L2.ixN, Br.rng_ok, Br.mul_ok_r, Br.mul_ok_l, LIM, Br.PV.i_int, Br.log2_lt_9000, Br.atI_0, Br.atI_1, Br.atI_2, lcntP, lidxP, bitsP, revP, cntP, sortedDP, minDP, maxDP, sortX, Br.x_try, Br.tryK_nx, Br.tryK_rt, Br.tryK_bk, Br.tryK_ct, Br.suiteX_nx, Br.suiteX_bk, Br.suiteX_ct, Br.suiteX_rt, Br.setX_some, Br.setX_none, Br.goneX_some, Br.goneX_none, Br.x_lock, Br.kLock_d, Br.lockR_nx, Br.lockR_rt, Br.l_callN', Br.v_callN, Br.kN1, Br.kN2_eq, Br.newL_t, Br.newL_f, Br.l_callT', Br.v_callT, Br.kT1, Br.kT2, Br.kT3, Br.kT4_eq, Br.dropT_ok, Br.dropT_ex, Br.dropT_st, Br.sh_val, Br.sh_ref, Br.kXt, Br.v_xtup, Br.l_xtup, Br.lockV_s, Br.thin_0, Br.thin_c, Br.thinO_n, Br.thinO_s, Br.thinL_f, Br.thinL_l, Br.thinL_d, Br.thinL_t, Br.noD_n, Br.noD_b, Br.noD_i, Br.noD_s, Br.noD_e, Br.noD_t, Br.noD_x, Br.noD_l, Br.noD_d, Br.noDs_0, Br.noDs_c, Br.noDs_i, Br.v_dnewT, Br.v_dnewX, Br.l_dnewT', Br.l_dnewX', Br.opX_idxT, Br.opX_dgetT, Br.opX_innT, Br.opX_ninT, Br.opX_sortT, idxTP, dgetTP, innTP, ninTP, sortTP, Br.opX_strD, Br.opX_max2D, Br.opX_valsL, Br.opX_valsS, Br.opX_minV, Br.opX_minT, Br.opX_sset, Br.opX_ssetT, Br.opX_lset, Br.opX_join, Br.opX_split, Br.opX_strip2, Br.opX_intS, Br.opX_idxS, Br.opX_inS, Br.opX_addX, addXP, minVP, minTP, valsLP, valsSP, tcntP, tupleXP, Br.l_mcall', Br.v_mcall, Br.kMc, Br.l_make', Br.kMk, Br.madeT_ok, Br.madeT_st, Br.v_fld, Br.fldE_some, Br.l_fld, Br.v_fop, Br.fldO_fro, Br.fldO_own, Br.l_fop', Br.x_fset, Br.x_fnew, Br.x_fappV, Br.x_fappT, fsetS, fnewS, fappS, Br.froAt, insLs, insAt, Br.l_sel', Br.v_sel, Br.kSel_0, Br.kSel_1, Br.v_frz, Br.l_frz', Br.v_ofld, Br.l_ofld, Br.v_fix, Br.l_fix, Br.fixP_s, Br.ixOf_l, Br.ixOf_r, Br.ofldP_s, Br.l_mcallR', Br.v_mcallR, Br.kMr, Br.callR_k, Br.callR1_s, Br.callR2_ok, Br.pvsL_0, Br.pvsL_f, Br.pvsL_o, Br.bare_f, Br.bare_l, Br.bare_i, PV.bare, Br.x_fsetIx, fsetIxS, Br.x_fappE, Br.kFa0_s, Br.kFa_l, fappES, Br.dn_gt, Br.dn_obj, and_self, Br.opX_max3, Br.opX_min3, max3P, min3P, $xs,*])
| `(tactic| simp -implicitDefEqProofs [evx]) => `(tactic| simp -implicitDefEqProofs [ioOk, Br.frameOf, lvsOf, Br.exSs_nil, Br.exSs_cons, SO.seq_nx, SO.seq_rt, SO.seq_ex, SO.seq_bk, SO.seq_ct, SO.seq_st, SO.fin_nx, SO.fin_rt, SO.fin_ex, Br.v_app, Br.v_mth, Br.v_tup, Br.v_lst, Br.v_cst, Br.v_dnew, Br.v_var, Br.v_call, Br.v_and, Br.v_or, Br.v_not, Br.v_ite, Br.v_chain, Br.v_chain3, Br.kCh33, Br.kCh32b, Br.kCh32, Br.kCh31, Br.v_sl2, Br.v_comp, Br.v_compK, Br.v_compO, Br.kCO_l, Br.putO_ok, Br.kCK_d, Br.kCK_t, Br.lockE_ok, Br.v_aref, Br.v_aval, Br.v_as0, Br.v_as, Br.v_es0, Br.v_es, Br.v_tand, Br.v_tor, Br.v_tnot, Br.v_te, Br.v_ts0, Br.v_ts1, Br.v_seq, Br.v_seqS, Br.kSeqS, Br.v_rng1, Br.v_rng2, Br.v_enum, Br.v_zip, Br.v_popE, Br.v_dispV, Br.l_dispV', Br.v_popD, Br.l_popD, Br.kPopD_eq, Br.v_disp1, Br.l_disp1', Br.kD1_eq, Br.kD2_i, Br.calm_ok, Br.v_popL, Br.l_popE, Br.l_popL, Br.kPopE_eq, Br.putE_some, Br.putE_none, Br.v_rev, Br.l_app, Br.l_mth', Br.l_lst', Br.l_dnew', Br.l_call', Br.l_comp', Br.l_compK', Br.l_compO', Br.l_mvv', Br.kMv_o, Br.kMv_f, Br.l_var, Br.l_cst, Br.l_tup, Br.l_and, Br.l_or, Br.l_not, Br.l_ite, Br.l_chain, Br.l_chain3, Br.l_sl2, Br.x_set, Br.x_unp, Br.x_par, Br.x_setIx, Br.x_app, Br.x_ext, Br.x_popA, Br.x_insA, Br.kPopA, Br.kIns1, Br.kIns2, Br.x_ex, Br.x_ret, Br.x_retV, Br.x_retN, Br.x_if, Br.x_whl, Br.x_brk, Br.x_cont, Br.x_pass, Br.x_raise, Br.kOp, Br.kVal, Br.kCons, Br.kAs, Br.kConsE, Br.kEs, Br.kTup, Br.kLst, Br.kCall, Br.kMth2, Br.kMth, Br.kAnd, Br.kOr, Br.kNot, Br.kIte, Br.kCh4, Br.kCh3, Br.kCh2b, Br.kCh2, Br.kCh1, Br.kS3, Br.kS2, Br.kS1, Br.kC6, Br.kC5, Br.kC4, Br.kC3, Br.kC0, Br.kC2, Br.kC1, Br.kTand, Br.kTor, Br.kTnot, Br.kTe, Br.kSeq, Br.kR1, Br.kR3, Br.kR2, Br.kEn, Br.kZ2, Br.kZ1, Br.kRv, Br.kOwn, Br.kFro, Br.kOwnV, Br.kCallL, Br.kSet, Br.kUnp, Br.kPar, Br.kSI2, Br.kSI1, Br.kApp, Br.kExt, Br.kEx, Br.kRet, Br.kIf, Br.kFor, Br.ifE_t, Br.ifE_f, Br.ifS_t, Br.ifS_f, Br.okE_eq, Br.cF, Br.x_for, ne_eq, reduceCtorEq, not_false_eq_true, implies_true, ER.bind_ok, ER.bind_ex, ER.bind_st, ER.so_ok, ER.so_ex, ER.so_st, ER.of_some, ER.of_none, SO.of_some, SO.of_none, Br.bindS_k, Br.bindK_some, Br.bindK_none, Tg.bind, Tg.binds, slotInt, at', setIxP, AV.pvs, AV.pv, AV.lvs, AV.lv, AV.refs, AV.back, maskL, LV.isFro, LV.pv, Br.callE_k, Br.callK0_some, Br.callK_ok, Br.callK_ex, froE, Br.opX_add, Br.opX_sub, Br.opX_mul, Br.opX_fdiv, Br.opX_mod, Br.opX_pow, Br.opX_neg, Br.opX_eq, Br.opX_ne, Br.opX_lt, Br.opX_le, Br.opX_gt, Br.opX_ge, Br.opX_isN, Br.opX_isNN, Br.opX_inn, Br.opX_nin, Br.opX_len, Br.opX_sum, Br.opX_abs, Br.opX_int1, Br.opX_str1, Br.opX_tuple1, Br.opX_list1, Br.opX_sorted, Br.opX_allL, Br.opX_anyL, Br.opX_min2, Br.opX_max2, Br.opX_minL, Br.opX_maxL, Br.opX_idx, Br.opX_rev, Br.opX_dget, Br.opX_values, Br.opX_dmod, Br.opX_lcnt, Br.opX_tcnt, Br.opX_lidx, Br.opX_bits, Br.opX_sortedD, Br.opX_minD, Br.opX_maxD, Br.opX_isB, Br.opX_isNB, Br.opX_isTy, Br.opX_slc, Br.opX_lsetX, Br.opX_slcX, Br.opX_revX, Br.opX_mkX, mkXP, slcXP, revXP, Br.opX_isEx, Br.opX_dict1, Br.opX_dictT, Br.opX_tupleX, Br.dn_non, Br.dn_bl, Br.dn_int, Br.dn_str, Br.dn_ty, Br.dn_exc, Br.dn_tup, Br.dn_xt, Br.dn_lst, Br.dn_dK, Br.dn_dT, Br.dn_dX, Br.dn_dn, Br.isD_dn, Br.eqP_dnl, Br.eqP_dnr, tupleXP, opSem, addP, subP, mulP, fdivP, modP, powP, negP, eqOP, neOP, ltOP, leOP, gtOP, geOP, isNP, isNNP, isBP, isNBP, PV.isNon, lenP, sumP, absP, int1P, str1P, tuple1P, list1P, min2P, max2P, idxP, slcP, slcPart, dmodP, isTyOP, isTys, isTyP, tyName, ownV, Op.new, wipeE, Br.backE_nil, Br.backE_cons, Br.froO_f, Br.froO_n, Br.froO_0, Br.froO_o, seqOf, parE, ownL, ownD, keyP, recvOk, PV.isD, PV.isT, Br.eqP_ii, Br.eqP_ss, Br.eqP_bb, Br.eqP_nn, Br.eqP_tt, Br.eqP_ll, Br.eqPs_00, Br.eqPs_0c, Br.eqPs_c0, Br.eqPs_cc, Br.eqPs_ints, Br.eqP_xl, Br.eqP_xr, Br.eqP_ni, Br.eqP_ns, Br.eqP_nt, Br.eqP_nl, Br.eqP_nb, Br.eqP_in, Br.eqP_is, Br.eqP_it, Br.eqP_il, Br.eqP_sn, Br.eqP_si, Br.eqP_st, Br.eqP_sl, Br.eqP_sb, Br.eqP_tn, Br.eqP_ti, Br.eqP_ts, Br.eqP_tl, Br.eqP_tb, Br.eqP_ln, Br.eqP_li, Br.eqP_ls, Br.eqP_lt, Br.eqP_lb, Br.eqP_bn, Br.eqP_bs, Br.eqP_bt, Br.eqP_bl, intsOf, List.getElem?_cons_zero, List.getElem?_cons_succ, List.getElem?_nil, List.set_cons_zero, List.set_cons_succ, List.map_cons, List.map_nil, List.cons_append, List.nil_append, List.length_cons, List.length_nil, List.replicate_succ, List.replicate_zero, List.append_nil, Option.bind_some, Option.bind_none, Option.map_some, Option.map_none, if_true, if_false, ite_true, ite_false, decide_true, decide_false, Bool.and_true, Bool.true_and, Bool.not_true, Bool.not_false, reduceIte, Option.isSome_some, Br.kit_NoneType_int, Br.kit_NoneType_bool, Br.kit_NoneType_str, Br.kit_NoneType_tuple, Br.kit_NoneType_list, Br.kit_NoneType_dict, Br.kit_bool_int, Br.kit_bool_bool, Br.kit_bool_str, Br.kit_bool_tuple, Br.kit_bool_list, Br.kit_bool_dict, Br.kit_int_int, Br.kit_int_bool, Br.kit_int_str, Br.kit_int_tuple, Br.kit_int_list, Br.kit_int_dict, Br.kit_str_int, Br.kit_str_bool, Br.kit_str_str, Br.kit_str_tuple, Br.kit_str_list, Br.kit_str_dict, Br.kit_tuple_int, Br.kit_tuple_bool, Br.kit_tuple_str, Br.kit_tuple_tuple, Br.kit_tuple_list, Br.kit_tuple_dict, Br.kit_list_int, Br.kit_list_bool, Br.kit_list_str, Br.kit_list_tuple, Br.kit_list_list, Br.kit_list_dict, Br.kit_dict_int, Br.kit_dict_bool, Br.kit_dict_str, Br.kit_dict_tuple, Br.kit_dict_list, Br.kit_dict_dict, L2.ixN, Br.rng_ok, Br.mul_ok_r, Br.mul_ok_l, LIM, Br.PV.i_int, Br.log2_lt_9000, Br.atI_0, Br.atI_1, Br.atI_2, lcntP, lidxP, bitsP, revP, cntP, sortedDP, minDP, maxDP, sortX, Br.x_try, Br.tryK_nx, Br.tryK_rt, Br.tryK_bk, Br.tryK_ct, Br.suiteX_nx, Br.suiteX_bk, Br.suiteX_ct, Br.suiteX_rt, Br.setX_some, Br.setX_none, Br.goneX_some, Br.goneX_none, Br.x_lock, Br.kLock_d, Br.lockR_nx, Br.lockR_rt, Br.l_callN', Br.v_callN, Br.kN1, Br.kN2_eq, Br.newL_t, Br.newL_f, Br.l_callT', Br.v_callT, Br.kT1, Br.kT2, Br.kT3, Br.kT4_eq, Br.dropT_ok, Br.dropT_ex, Br.dropT_st, Br.sh_val, Br.sh_ref, Br.kXt, Br.v_xtup, Br.l_xtup, Br.lockV_s, Br.thin_0, Br.thin_c, Br.thinO_n, Br.thinO_s, Br.thinL_f, Br.thinL_l, Br.thinL_d, Br.thinL_t, Br.noD_n, Br.noD_b, Br.noD_i, Br.noD_s, Br.noD_e, Br.noD_t, Br.noD_x, Br.noD_l, Br.noD_d, Br.noDs_0, Br.noDs_c, Br.noDs_i, Br.v_dnewT, Br.v_dnewX, Br.l_dnewT', Br.l_dnewX', Br.opX_idxT, Br.opX_dgetT, Br.opX_innT, Br.opX_ninT, Br.opX_sortT, idxTP, dgetTP, innTP, ninTP, sortTP, Br.opX_strD, Br.opX_max2D, Br.opX_valsL, Br.opX_valsS, Br.opX_minV, Br.opX_minT, Br.opX_sset, Br.opX_ssetT, Br.opX_lset, Br.opX_join, Br.opX_split, Br.opX_strip2, Br.opX_intS, Br.opX_idxS, Br.opX_inS, Br.opX_addX, addXP, minVP, minTP, valsLP, valsSP, tcntP, tupleXP, Br.l_mcall', Br.v_mcall, Br.kMc, Br.l_make', Br.kMk, Br.madeT_ok, Br.madeT_st, Br.v_fld, Br.fldE_some, Br.l_fld, Br.v_fop, Br.fldO_fro, Br.fldO_own, Br.l_fop', Br.x_fset, Br.x_fnew, Br.x_fappV, Br.x_fappT, fsetS, fnewS, fappS, Br.froAt, insLs, insAt, Br.l_sel', Br.v_sel, Br.kSel_0, Br.kSel_1, Br.v_frz, Br.l_frz', Br.v_ofld, Br.l_ofld, Br.v_fix, Br.l_fix, Br.fixP_s, Br.ixOf_l, Br.ixOf_r, Br.ofldP_s, Br.l_mcallR', Br.v_mcallR, Br.kMr, Br.callR_k, Br.callR1_s, Br.callR2_ok, Br.pvsL_0, Br.pvsL_f, Br.pvsL_o, Br.bare_f, Br.bare_l, Br.bare_i, PV.bare, Br.x_fsetIx, fsetIxS, Br.x_fappE, Br.kFa0_s, Br.kFa_l, fappES, Br.dn_gt, Br.dn_obj, and_self, Br.opX_max3, Br.opX_min3, max3P, min3P])
def kn_law_marks_5739 : List Str := ["NoRatio", "NoHeap", "NoLot", "Unlike", "TooMany", "NoSize", "TooFew", "NoText", "NoRow", "NoBack"]
def cs_law_marks_5739_NoBack : List Str := ["NoBack"]
@[simp] theorem cs_law_marks_5739_NoBack_NoRatio : isExP kn_law_marks_5739 cs_law_marks_5739_NoBack [.exc "NoRatio"] = some (.bl false) := isExP_exc (by decide) (by decide)
@[simp] theorem cs_law_marks_5739_NoBack_NoHeap : isExP kn_law_marks_5739 cs_law_marks_5739_NoBack [.exc "NoHeap"] = some (.bl false) := isExP_exc (by decide) (by decide)
@[simp] theorem cs_law_marks_5739_NoBack_NoLot : isExP kn_law_marks_5739 cs_law_marks_5739_NoBack [.exc "NoLot"] = some (.bl false) := isExP_exc (by decide) (by decide)
@[simp] theorem cs_law_marks_5739_NoBack_Unlike : isExP kn_law_marks_5739 cs_law_marks_5739_NoBack [.exc "Unlike"] = some (.bl false) := isExP_exc (by decide) (by decide)
@[simp] theorem cs_law_marks_5739_NoBack_TooMany : isExP kn_law_marks_5739 cs_law_marks_5739_NoBack [.exc "TooMany"] = some (.bl false) := isExP_exc (by decide) (by decide)
@[simp] theorem cs_law_marks_5739_NoBack_NoSize : isExP kn_law_marks_5739 cs_law_marks_5739_NoBack [.exc "NoSize"] = some (.bl false) := isExP_exc (by decide) (by decide)
@[simp] theorem cs_law_marks_5739_NoBack_TooFew : isExP kn_law_marks_5739 cs_law_marks_5739_NoBack [.exc "TooFew"] = some (.bl false) := isExP_exc (by decide) (by decide)
@[simp] theorem cs_law_marks_5739_NoBack_NoText : isExP kn_law_marks_5739 cs_law_marks_5739_NoBack [.exc "NoText"] = some (.bl false) := isExP_exc (by decide) (by decide)
@[simp] theorem cs_law_marks_5739_NoBack_NoRow : isExP kn_law_marks_5739 cs_law_marks_5739_NoBack [.exc "NoRow"] = some (.bl false) := isExP_exc (by decide) (by decide)
@[simp] theorem cs_law_marks_5739_NoBack_NoBack : isExP kn_law_marks_5739 cs_law_marks_5739_NoBack [.exc "NoBack"] = some (.bl true) := isExP_exc (by decide) (by decide)
@[simp] theorem cs_law_marks_5739_NoBack_non : isExP kn_law_marks_5739 cs_law_marks_5739_NoBack [.non] = some (.bl false) := isExP_non (by decide)
def cs_law_marks_5739_NoHeap : List Str := ["NoHeap"]
@[simp] theorem cs_law_marks_5739_NoHeap_NoRatio : isExP kn_law_marks_5739 cs_law_marks_5739_NoHeap [.exc "NoRatio"] = some (.bl false) := isExP_exc (by decide) (by decide)
@[simp] theorem cs_law_marks_5739_NoHeap_NoHeap : isExP kn_law_marks_5739 cs_law_marks_5739_NoHeap [.exc "NoHeap"] = some (.bl true) := isExP_exc (by decide) (by decide)
@[simp] theorem cs_law_marks_5739_NoHeap_NoLot : isExP kn_law_marks_5739 cs_law_marks_5739_NoHeap [.exc "NoLot"] = some (.bl false) := isExP_exc (by decide) (by decide)
@[simp] theorem cs_law_marks_5739_NoHeap_Unlike : isExP kn_law_marks_5739 cs_law_marks_5739_NoHeap [.exc "Unlike"] = some (.bl false) := isExP_exc (by decide) (by decide)
@[simp] theorem cs_law_marks_5739_NoHeap_TooMany : isExP kn_law_marks_5739 cs_law_marks_5739_NoHeap [.exc "TooMany"] = some (.bl false) := isExP_exc (by decide) (by decide)
@[simp] theorem cs_law_marks_5739_NoHeap_NoSize : isExP kn_law_marks_5739 cs_law_marks_5739_NoHeap [.exc "NoSize"] = some (.bl false) := isExP_exc (by decide) (by decide)
@[simp] theorem cs_law_marks_5739_NoHeap_TooFew : isExP kn_law_marks_5739 cs_law_marks_5739_NoHeap [.exc "TooFew"] = some (.bl false) := isExP_exc (by decide) (by decide)
@[simp] theorem cs_law_marks_5739_NoHeap_NoText : isExP kn_law_marks_5739 cs_law_marks_5739_NoHeap [.exc "NoText"] = some (.bl false) := isExP_exc (by decide) (by decide)
@[simp] theorem cs_law_marks_5739_NoHeap_NoRow : isExP kn_law_marks_5739 cs_law_marks_5739_NoHeap [.exc "NoRow"] = some (.bl false) := isExP_exc (by decide) (by decide)
@[simp] theorem cs_law_marks_5739_NoHeap_NoBack : isExP kn_law_marks_5739 cs_law_marks_5739_NoHeap [.exc "NoBack"] = some (.bl false) := isExP_exc (by decide) (by decide)
@[simp] theorem cs_law_marks_5739_NoHeap_non : isExP kn_law_marks_5739 cs_law_marks_5739_NoHeap [.non] = some (.bl false) := isExP_non (by decide)
def cs_law_marks_5739_NoLot : List Str := ["NoLot"]
@[simp] theorem cs_law_marks_5739_NoLot_NoRatio : isExP kn_law_marks_5739 cs_law_marks_5739_NoLot [.exc "NoRatio"] = some (.bl false) := isExP_exc (by decide) (by decide)
@[simp] theorem cs_law_marks_5739_NoLot_NoHeap : isExP kn_law_marks_5739 cs_law_marks_5739_NoLot [.exc "NoHeap"] = some (.bl false) := isExP_exc (by decide) (by decide)
@[simp] theorem cs_law_marks_5739_NoLot_NoLot : isExP kn_law_marks_5739 cs_law_marks_5739_NoLot [.exc "NoLot"] = some (.bl true) := isExP_exc (by decide) (by decide)
@[simp] theorem cs_law_marks_5739_NoLot_Unlike : isExP kn_law_marks_5739 cs_law_marks_5739_NoLot [.exc "Unlike"] = some (.bl false) := isExP_exc (by decide) (by decide)
@[simp] theorem cs_law_marks_5739_NoLot_TooMany : isExP kn_law_marks_5739 cs_law_marks_5739_NoLot [.exc "TooMany"] = some (.bl false) := isExP_exc (by decide) (by decide)
@[simp] theorem cs_law_marks_5739_NoLot_NoSize : isExP kn_law_marks_5739 cs_law_marks_5739_NoLot [.exc "NoSize"] = some (.bl false) := isExP_exc (by decide) (by decide)
@[simp] theorem cs_law_marks_5739_NoLot_TooFew : isExP kn_law_marks_5739 cs_law_marks_5739_NoLot [.exc "TooFew"] = some (.bl false) := isExP_exc (by decide) (by decide)
@[simp] theorem cs_law_marks_5739_NoLot_NoText : isExP kn_law_marks_5739 cs_law_marks_5739_NoLot [.exc "NoText"] = some (.bl false) := isExP_exc (by decide) (by decide)
@[simp] theorem cs_law_marks_5739_NoLot_NoRow : isExP kn_law_marks_5739 cs_law_marks_5739_NoLot [.exc "NoRow"] = some (.bl false) := isExP_exc (by decide) (by decide)
@[simp] theorem cs_law_marks_5739_NoLot_NoBack : isExP kn_law_marks_5739 cs_law_marks_5739_NoLot [.exc "NoBack"] = some (.bl false) := isExP_exc (by decide) (by decide)
@[simp] theorem cs_law_marks_5739_NoLot_non : isExP kn_law_marks_5739 cs_law_marks_5739_NoLot [.non] = some (.bl false) := isExP_non (by decide)
def cs_law_marks_5739_NoRatio : List Str := ["NoRatio"]
@[simp] theorem cs_law_marks_5739_NoRatio_NoRatio : isExP kn_law_marks_5739 cs_law_marks_5739_NoRatio [.exc "NoRatio"] = some (.bl true) := isExP_exc (by decide) (by decide)
@[simp] theorem cs_law_marks_5739_NoRatio_NoHeap : isExP kn_law_marks_5739 cs_law_marks_5739_NoRatio [.exc "NoHeap"] = some (.bl false) := isExP_exc (by decide) (by decide)
@[simp] theorem cs_law_marks_5739_NoRatio_NoLot : isExP kn_law_marks_5739 cs_law_marks_5739_NoRatio [.exc "NoLot"] = some (.bl false) := isExP_exc (by decide) (by decide)
@[simp] theorem cs_law_marks_5739_NoRatio_Unlike : isExP kn_law_marks_5739 cs_law_marks_5739_NoRatio [.exc "Unlike"] = some (.bl false) := isExP_exc (by decide) (by decide)
@[simp] theorem cs_law_marks_5739_NoRatio_TooMany : isExP kn_law_marks_5739 cs_law_marks_5739_NoRatio [.exc "TooMany"] = some (.bl false) := isExP_exc (by decide) (by decide)
@[simp] theorem cs_law_marks_5739_NoRatio_NoSize : isExP kn_law_marks_5739 cs_law_marks_5739_NoRatio [.exc "NoSize"] = some (.bl false) := isExP_exc (by decide) (by decide)
@[simp] theorem cs_law_marks_5739_NoRatio_TooFew : isExP kn_law_marks_5739 cs_law_marks_5739_NoRatio [.exc "TooFew"] = some (.bl false) := isExP_exc (by decide) (by decide)
@[simp] theorem cs_law_marks_5739_NoRatio_NoText : isExP kn_law_marks_5739 cs_law_marks_5739_NoRatio [.exc "NoText"] = some (.bl false) := isExP_exc (by decide) (by decide)
@[simp] theorem cs_law_marks_5739_NoRatio_NoRow : isExP kn_law_marks_5739 cs_law_marks_5739_NoRatio [.exc "NoRow"] = some (.bl false) := isExP_exc (by decide) (by decide)
@[simp] theorem cs_law_marks_5739_NoRatio_NoBack : isExP kn_law_marks_5739 cs_law_marks_5739_NoRatio [.exc "NoBack"] = some (.bl false) := isExP_exc (by decide) (by decide)
@[simp] theorem cs_law_marks_5739_NoRatio_non : isExP kn_law_marks_5739 cs_law_marks_5739_NoRatio [.non] = some (.bl false) := isExP_non (by decide)
def cs_law_marks_5739_NoRow : List Str := ["NoRow"]
@[simp] theorem cs_law_marks_5739_NoRow_NoRatio : isExP kn_law_marks_5739 cs_law_marks_5739_NoRow [.exc "NoRatio"] = some (.bl false) := isExP_exc (by decide) (by decide)
@[simp] theorem cs_law_marks_5739_NoRow_NoHeap : isExP kn_law_marks_5739 cs_law_marks_5739_NoRow [.exc "NoHeap"] = some (.bl false) := isExP_exc (by decide) (by decide)
@[simp] theorem cs_law_marks_5739_NoRow_NoLot : isExP kn_law_marks_5739 cs_law_marks_5739_NoRow [.exc "NoLot"] = some (.bl false) := isExP_exc (by decide) (by decide)
@[simp] theorem cs_law_marks_5739_NoRow_Unlike : isExP kn_law_marks_5739 cs_law_marks_5739_NoRow [.exc "Unlike"] = some (.bl false) := isExP_exc (by decide) (by decide)
@[simp] theorem cs_law_marks_5739_NoRow_TooMany : isExP kn_law_marks_5739 cs_law_marks_5739_NoRow [.exc "TooMany"] = some (.bl false) := isExP_exc (by decide) (by decide)
@[simp] theorem cs_law_marks_5739_NoRow_NoSize : isExP kn_law_marks_5739 cs_law_marks_5739_NoRow [.exc "NoSize"] = some (.bl false) := isExP_exc (by decide) (by decide)
@[simp] theorem cs_law_marks_5739_NoRow_TooFew : isExP kn_law_marks_5739 cs_law_marks_5739_NoRow [.exc "TooFew"] = some (.bl false) := isExP_exc (by decide) (by decide)
@[simp] theorem cs_law_marks_5739_NoRow_NoText : isExP kn_law_marks_5739 cs_law_marks_5739_NoRow [.exc "NoText"] = some (.bl false) := isExP_exc (by decide) (by decide)
@[simp] theorem cs_law_marks_5739_NoRow_NoRow : isExP kn_law_marks_5739 cs_law_marks_5739_NoRow [.exc "NoRow"] = some (.bl true) := isExP_exc (by decide) (by decide)
@[simp] theorem cs_law_marks_5739_NoRow_NoBack : isExP kn_law_marks_5739 cs_law_marks_5739_NoRow [.exc "NoBack"] = some (.bl false) := isExP_exc (by decide) (by decide)
@[simp] theorem cs_law_marks_5739_NoRow_non : isExP kn_law_marks_5739 cs_law_marks_5739_NoRow [.non] = some (.bl false) := isExP_non (by decide)
def cs_law_marks_5739_NoSize : List Str := ["NoSize"]
@[simp] theorem cs_law_marks_5739_NoSize_NoRatio : isExP kn_law_marks_5739 cs_law_marks_5739_NoSize [.exc "NoRatio"] = some (.bl false) := isExP_exc (by decide) (by decide)
@[simp] theorem cs_law_marks_5739_NoSize_NoHeap : isExP kn_law_marks_5739 cs_law_marks_5739_NoSize [.exc "NoHeap"] = some (.bl false) := isExP_exc (by decide) (by decide)
@[simp] theorem cs_law_marks_5739_NoSize_NoLot : isExP kn_law_marks_5739 cs_law_marks_5739_NoSize [.exc "NoLot"] = some (.bl false) := isExP_exc (by decide) (by decide)
@[simp] theorem cs_law_marks_5739_NoSize_Unlike : isExP kn_law_marks_5739 cs_law_marks_5739_NoSize [.exc "Unlike"] = some (.bl false) := isExP_exc (by decide) (by decide)
@[simp] theorem cs_law_marks_5739_NoSize_TooMany : isExP kn_law_marks_5739 cs_law_marks_5739_NoSize [.exc "TooMany"] = some (.bl false) := isExP_exc (by decide) (by decide)
@[simp] theorem cs_law_marks_5739_NoSize_NoSize : isExP kn_law_marks_5739 cs_law_marks_5739_NoSize [.exc "NoSize"] = some (.bl true) := isExP_exc (by decide) (by decide)
@[simp] theorem cs_law_marks_5739_NoSize_TooFew : isExP kn_law_marks_5739 cs_law_marks_5739_NoSize [.exc "TooFew"] = some (.bl false) := isExP_exc (by decide) (by decide)
@[simp] theorem cs_law_marks_5739_NoSize_NoText : isExP kn_law_marks_5739 cs_law_marks_5739_NoSize [.exc "NoText"] = some (.bl false) := isExP_exc (by decide) (by decide)
@[simp] theorem cs_law_marks_5739_NoSize_NoRow : isExP kn_law_marks_5739 cs_law_marks_5739_NoSize [.exc "NoRow"] = some (.bl false) := isExP_exc (by decide) (by decide)
@[simp] theorem cs_law_marks_5739_NoSize_NoBack : isExP kn_law_marks_5739 cs_law_marks_5739_NoSize [.exc "NoBack"] = some (.bl false) := isExP_exc (by decide) (by decide)
@[simp] theorem cs_law_marks_5739_NoSize_non : isExP kn_law_marks_5739 cs_law_marks_5739_NoSize [.non] = some (.bl false) := isExP_non (by decide)
def cs_law_marks_5739_NoText : List Str := ["NoText"]
@[simp] theorem cs_law_marks_5739_NoText_NoRatio : isExP kn_law_marks_5739 cs_law_marks_5739_NoText [.exc "NoRatio"] = some (.bl false) := isExP_exc (by decide) (by decide)
@[simp] theorem cs_law_marks_5739_NoText_NoHeap : isExP kn_law_marks_5739 cs_law_marks_5739_NoText [.exc "NoHeap"] = some (.bl false) := isExP_exc (by decide) (by decide)
@[simp] theorem cs_law_marks_5739_NoText_NoLot : isExP kn_law_marks_5739 cs_law_marks_5739_NoText [.exc "NoLot"] = some (.bl false) := isExP_exc (by decide) (by decide)
@[simp] theorem cs_law_marks_5739_NoText_Unlike : isExP kn_law_marks_5739 cs_law_marks_5739_NoText [.exc "Unlike"] = some (.bl false) := isExP_exc (by decide) (by decide)
@[simp] theorem cs_law_marks_5739_NoText_TooMany : isExP kn_law_marks_5739 cs_law_marks_5739_NoText [.exc "TooMany"] = some (.bl false) := isExP_exc (by decide) (by decide)
@[simp] theorem cs_law_marks_5739_NoText_NoSize : isExP kn_law_marks_5739 cs_law_marks_5739_NoText [.exc "NoSize"] = some (.bl false) := isExP_exc (by decide) (by decide)
@[simp] theorem cs_law_marks_5739_NoText_TooFew : isExP kn_law_marks_5739 cs_law_marks_5739_NoText [.exc "TooFew"] = some (.bl false) := isExP_exc (by decide) (by decide)
@[simp] theorem cs_law_marks_5739_NoText_NoText : isExP kn_law_marks_5739 cs_law_marks_5739_NoText [.exc "NoText"] = some (.bl true) := isExP_exc (by decide) (by decide)
@[simp] theorem cs_law_marks_5739_NoText_NoRow : isExP kn_law_marks_5739 cs_law_marks_5739_NoText [.exc "NoRow"] = some (.bl false) := isExP_exc (by decide) (by decide)
@[simp] theorem cs_law_marks_5739_NoText_NoBack : isExP kn_law_marks_5739 cs_law_marks_5739_NoText [.exc "NoBack"] = some (.bl false) := isExP_exc (by decide) (by decide)
@[simp] theorem cs_law_marks_5739_NoText_non : isExP kn_law_marks_5739 cs_law_marks_5739_NoText [.non] = some (.bl false) := isExP_non (by decide)
def cs_law_marks_5739_TooFew : List Str := ["TooFew"]
@[simp] theorem cs_law_marks_5739_TooFew_NoRatio : isExP kn_law_marks_5739 cs_law_marks_5739_TooFew [.exc "NoRatio"] = some (.bl false) := isExP_exc (by decide) (by decide)
@[simp] theorem cs_law_marks_5739_TooFew_NoHeap : isExP kn_law_marks_5739 cs_law_marks_5739_TooFew [.exc "NoHeap"] = some (.bl false) := isExP_exc (by decide) (by decide)
@[simp] theorem cs_law_marks_5739_TooFew_NoLot : isExP kn_law_marks_5739 cs_law_marks_5739_TooFew [.exc "NoLot"] = some (.bl false) := isExP_exc (by decide) (by decide)
@[simp] theorem cs_law_marks_5739_TooFew_Unlike : isExP kn_law_marks_5739 cs_law_marks_5739_TooFew [.exc "Unlike"] = some (.bl false) := isExP_exc (by decide) (by decide)
@[simp] theorem cs_law_marks_5739_TooFew_TooMany : isExP kn_law_marks_5739 cs_law_marks_5739_TooFew [.exc "TooMany"] = some (.bl false) := isExP_exc (by decide) (by decide)
@[simp] theorem cs_law_marks_5739_TooFew_NoSize : isExP kn_law_marks_5739 cs_law_marks_5739_TooFew [.exc "NoSize"] = some (.bl false) := isExP_exc (by decide) (by decide)
@[simp] theorem cs_law_marks_5739_TooFew_TooFew : isExP kn_law_marks_5739 cs_law_marks_5739_TooFew [.exc "TooFew"] = some (.bl true) := isExP_exc (by decide) (by decide)
@[simp] theorem cs_law_marks_5739_TooFew_NoText : isExP kn_law_marks_5739 cs_law_marks_5739_TooFew [.exc "NoText"] = some (.bl false) := isExP_exc (by decide) (by decide)
@[simp] theorem cs_law_marks_5739_TooFew_NoRow : isExP kn_law_marks_5739 cs_law_marks_5739_TooFew [.exc "NoRow"] = some (.bl false) := isExP_exc (by decide) (by decide)
@[simp] theorem cs_law_marks_5739_TooFew_NoBack : isExP kn_law_marks_5739 cs_law_marks_5739_TooFew [.exc "NoBack"] = some (.bl false) := isExP_exc (by decide) (by decide)
@[simp] theorem cs_law_marks_5739_TooFew_non : isExP kn_law_marks_5739 cs_law_marks_5739_TooFew [.non] = some (.bl false) := isExP_non (by decide)
def cs_law_marks_5739_TooMany : List Str := ["TooMany"]
@[simp] theorem cs_law_marks_5739_TooMany_NoRatio : isExP kn_law_marks_5739 cs_law_marks_5739_TooMany [.exc "NoRatio"] = some (.bl false) := isExP_exc (by decide) (by decide)
@[simp] theorem cs_law_marks_5739_TooMany_NoHeap : isExP kn_law_marks_5739 cs_law_marks_5739_TooMany [.exc "NoHeap"] = some (.bl false) := isExP_exc (by decide) (by decide)
@[simp] theorem cs_law_marks_5739_TooMany_NoLot : isExP kn_law_marks_5739 cs_law_marks_5739_TooMany [.exc "NoLot"] = some (.bl false) := isExP_exc (by decide) (by decide)
@[simp] theorem cs_law_marks_5739_TooMany_Unlike : isExP kn_law_marks_5739 cs_law_marks_5739_TooMany [.exc "Unlike"] = some (.bl false) := isExP_exc (by decide) (by decide)
@[simp] theorem cs_law_marks_5739_TooMany_TooMany : isExP kn_law_marks_5739 cs_law_marks_5739_TooMany [.exc "TooMany"] = some (.bl true) := isExP_exc (by decide) (by decide)
@[simp] theorem cs_law_marks_5739_TooMany_NoSize : isExP kn_law_marks_5739 cs_law_marks_5739_TooMany [.exc "NoSize"] = some (.bl false) := isExP_exc (by decide) (by decide)
@[simp] theorem cs_law_marks_5739_TooMany_TooFew : isExP kn_law_marks_5739 cs_law_marks_5739_TooMany [.exc "TooFew"] = some (.bl false) := isExP_exc (by decide) (by decide)
@[simp] theorem cs_law_marks_5739_TooMany_NoText : isExP kn_law_marks_5739 cs_law_marks_5739_TooMany [.exc "NoText"] = some (.bl false) := isExP_exc (by decide) (by decide)
@[simp] theorem cs_law_marks_5739_TooMany_NoRow : isExP kn_law_marks_5739 cs_law_marks_5739_TooMany [.exc "NoRow"] = some (.bl false) := isExP_exc (by decide) (by decide)
@[simp] theorem cs_law_marks_5739_TooMany_NoBack : isExP kn_law_marks_5739 cs_law_marks_5739_TooMany [.exc "NoBack"] = some (.bl false) := isExP_exc (by decide) (by decide)
@[simp] theorem cs_law_marks_5739_TooMany_non : isExP kn_law_marks_5739 cs_law_marks_5739_TooMany [.non] = some (.bl false) := isExP_non (by decide)
def cs_law_marks_5739_Unlike : List Str := ["Unlike"]
@[simp] theorem cs_law_marks_5739_Unlike_NoRatio : isExP kn_law_marks_5739 cs_law_marks_5739_Unlike [.exc "NoRatio"] = some (.bl false) := isExP_exc (by decide) (by decide)
@[simp] theorem cs_law_marks_5739_Unlike_NoHeap : isExP kn_law_marks_5739 cs_law_marks_5739_Unlike [.exc "NoHeap"] = some (.bl false) := isExP_exc (by decide) (by decide)
@[simp] theorem cs_law_marks_5739_Unlike_NoLot : isExP kn_law_marks_5739 cs_law_marks_5739_Unlike [.exc "NoLot"] = some (.bl false) := isExP_exc (by decide) (by decide)
@[simp] theorem cs_law_marks_5739_Unlike_Unlike : isExP kn_law_marks_5739 cs_law_marks_5739_Unlike [.exc "Unlike"] = some (.bl true) := isExP_exc (by decide) (by decide)
@[simp] theorem cs_law_marks_5739_Unlike_TooMany : isExP kn_law_marks_5739 cs_law_marks_5739_Unlike [.exc "TooMany"] = some (.bl false) := isExP_exc (by decide) (by decide)
@[simp] theorem cs_law_marks_5739_Unlike_NoSize : isExP kn_law_marks_5739 cs_law_marks_5739_Unlike [.exc "NoSize"] = some (.bl false) := isExP_exc (by decide) (by decide)
@[simp] theorem cs_law_marks_5739_Unlike_TooFew : isExP kn_law_marks_5739 cs_law_marks_5739_Unlike [.exc "TooFew"] = some (.bl false) := isExP_exc (by decide) (by decide)
@[simp] theorem cs_law_marks_5739_Unlike_NoText : isExP kn_law_marks_5739 cs_law_marks_5739_Unlike [.exc "NoText"] = some (.bl false) := isExP_exc (by decide) (by decide)
@[simp] theorem cs_law_marks_5739_Unlike_NoRow : isExP kn_law_marks_5739 cs_law_marks_5739_Unlike [.exc "NoRow"] = some (.bl false) := isExP_exc (by decide) (by decide)
@[simp] theorem cs_law_marks_5739_Unlike_NoBack : isExP kn_law_marks_5739 cs_law_marks_5739_Unlike [.exc "NoBack"] = some (.bl false) := isExP_exc (by decide) (by decide)
@[simp] theorem cs_law_marks_5739_Unlike_non : isExP kn_law_marks_5739 cs_law_marks_5739_Unlike [.non] = some (.bl false) := isExP_non (by decide)
def ir_law_marks_5739 : Fn := ⟨2, 1, [0], [.set 1 (.lst [.app (.isEx kn_law_marks_5739 cs_law_marks_5739_NoBack) [.ref 0], .app (.isEx kn_law_marks_5739 cs_law_marks_5739_NoHeap) [.ref 0], .app (.isEx kn_law_marks_5739 cs_law_marks_5739_NoLot) [.ref 0], .app (.isEx kn_law_marks_5739 cs_law_marks_5739_NoRatio) [.ref 0]]), .set 1 (.app .add [.ref 1, .val (.lst [.app (.isEx kn_law_marks_5739 cs_law_marks_5739_NoRow) [.ref 0], .app (.isEx kn_law_marks_5739 cs_law_marks_5739_NoSize) [.ref 0], .app (.isEx kn_law_marks_5739 cs_law_marks_5739_NoText) [.ref 0]])]), .ret (.app .add [.ref 1, .val (.lst [.app (.isEx kn_law_marks_5739 cs_law_marks_5739_TooFew) [.ref 0], .app (.isEx kn_law_marks_5739 cs_law_marks_5739_TooMany) [.ref 0], .app (.isEx kn_law_marks_5739 cs_law_marks_5739_Unlike) [.ref 0]])])]⟩
def ph_law_marks_5739 : Nat → List LV → CR := fun j => match j with | _ => fun _ => .st
def g_law_marks_5739 : List LV → CR := runFn ph_law_marks_5739 1000000 ir_law_marks_5739
def mk10 : List PySem.Str := ["NoBack", "NoHeap", "NoLot", "NoRatio", "NoRow", "NoSize", "NoText", "TooFew", "TooMany", "Unlike"]
theorem marks_5739 (j : Nat) (hj : j < 10) : g_law_marks_5739 [.fro (.exc (mk10.getD j ""))] = .ok (.own (.lst ((List.range 10).map fun (i : Nat) => .bl (decide (i = j))))) [.fro (.exc (mk10.getD j ""))] := by
  rcases (by omega : j = 0 ∨ j = 1 ∨ j = 2 ∨ j = 3 ∨ j = 4 ∨ j = 5 ∨ j = 6 ∨ j = 7 ∨ j = 8 ∨ j = 9) with rfl | rfl | rfl | rfl | rfl | rfl | rfl | rfl | rfl | rfl
  all_goals
    (unfold g_law_marks_5739 ir_law_marks_5739; rw [runFn_eq _ _ _ _ ⟨rfl, by decide, rfl⟩])
    simp -implicitDefEqProofs [evx, mk10]
    rfl
set_option maxHeartbeats 0
def ir_law_mixed_a529 : Fn := ⟨3, 2, [0, 1], [.set 2 (.app .mod [.val (.app .add [.val (.app .add [.val (.app .mul [.val (.app .mod [.ref 0, .val (.cst (.int 1000000000000000009))]), .val (.cst (.int 48271))]), .val (.app .mul [.val (.cst (.int 7919)), .ref 1])]), .val (.cst (.int 12345))]), .val (.cst (.int 2305843009213693951))]), .set 2 (.app .mod [.val (.app .mul [.ref 2, .ref 2]), .val (.cst (.int 2305843009213693921))]), .ret (.app .fdiv [.val (.app .mod [.val (.app .mul [.val (.app .add [.ref 2, .val (.app .mul [.val (.cst (.int 31)), .ref 1])]), .val (.cst (.int 69621))]), .val (.cst (.int 2305843009213693951))]), .val (.cst (.int 8))])]⟩
def ph_law_mixed_a529 : Nat → List LV → CR := fun j => match j with | _ => fun _ => .st
def g_law_mixed_a529 : List LV → CR := runFn ph_law_mixed_a529 1000000 ir_law_mixed_a529
theorem mixed_a529 (c k : Int) : ∃ r : Int, 0 ≤ r ∧ g_law_mixed_a529 [.fro (.int c), .fro (.int k)] = .ok (.fro (.int r)) [.fro (.int c), .fro (.int k)] := by
  (unfold g_law_mixed_a529 ir_law_mixed_a529; rw [runFn_eq _ _ _ _ ⟨rfl, by decide, rfl⟩])
  have hb : ∀ x : Int, (x % 2305843009213693951).natAbs < 18446744073709551616 := fun x => by omega
  refine ⟨_, ?_, by (conv => lhs; simp -implicitDefEqProofs [ioOk, Br.frameOf, lvsOf, Br.exSs_nil, Br.exSs_cons, SO.seq_nx, SO.seq_rt, SO.seq_ex, SO.seq_bk, SO.seq_ct, SO.seq_st, SO.fin_nx, SO.fin_rt, SO.fin_ex, Br.v_app, Br.v_mth, Br.v_tup, Br.v_lst, Br.v_cst, Br.v_dnew, Br.v_var, Br.v_call, Br.v_and, Br.v_or, Br.v_not, Br.v_ite, Br.v_chain, Br.v_chain3, Br.kCh33, Br.kCh32b, Br.kCh32, Br.kCh31, Br.v_sl2, Br.v_comp, Br.v_compK, Br.v_compO, Br.kCO_l, Br.putO_ok, Br.kCK_d, Br.kCK_t, Br.lockE_ok, Br.v_aref, Br.v_aval, Br.v_as0, Br.v_as, Br.v_es0, Br.v_es, Br.v_tand, Br.v_tor, Br.v_tnot, Br.v_te, Br.v_ts0, Br.v_ts1, Br.v_seq, Br.v_seqS, Br.kSeqS, Br.v_rng1, Br.v_rng2, Br.v_enum, Br.v_zip, Br.v_popE, Br.v_dispV, Br.l_dispV', Br.v_popD, Br.l_popD, Br.kPopD_eq, Br.v_disp1, Br.l_disp1', Br.kD1_eq, Br.kD2_i, Br.calm_ok, Br.v_popL, Br.l_popE, Br.l_popL, Br.kPopE_eq, Br.putE_some, Br.putE_none, Br.v_rev, Br.l_app, Br.l_mth', Br.l_lst', Br.l_dnew', Br.l_call', Br.l_comp', Br.l_compK', Br.l_compO', Br.l_mvv', Br.kMv_o, Br.kMv_f, Br.l_var, Br.l_cst, Br.l_tup, Br.l_and, Br.l_or, Br.l_not, Br.l_ite, Br.l_chain, Br.l_chain3, Br.l_sl2, Br.x_set, Br.x_unp, Br.x_par, Br.x_setIx, Br.x_app, Br.x_ext, Br.x_popA, Br.x_insA, Br.kPopA, Br.kIns1, Br.kIns2, Br.x_ex, Br.x_ret, Br.x_retV, Br.x_retN, Br.x_if, Br.x_whl, Br.x_brk, Br.x_cont, Br.x_pass, Br.x_raise, Br.kOp, Br.kVal, Br.kCons, Br.kAs, Br.kConsE, Br.kEs, Br.kTup, Br.kLst, Br.kCall, Br.kMth2, Br.kMth, Br.kAnd, Br.kOr, Br.kNot, Br.kIte, Br.kCh4, Br.kCh3, Br.kCh2b, Br.kCh2, Br.kCh1, Br.kS3, Br.kS2, Br.kS1, Br.kC6, Br.kC5, Br.kC4, Br.kC3, Br.kC0, Br.kC2, Br.kC1, Br.kTand, Br.kTor, Br.kTnot, Br.kTe, Br.kSeq, Br.kR1, Br.kR3, Br.kR2, Br.kEn, Br.kZ2, Br.kZ1, Br.kRv, Br.kOwn, Br.kFro, Br.kOwnV, Br.kCallL, Br.kSet, Br.kUnp, Br.kPar, Br.kSI2, Br.kSI1, Br.kApp, Br.kExt, Br.kEx, Br.kRet, Br.kIf, Br.kFor, Br.ifE_t, Br.ifE_f, Br.ifS_t, Br.ifS_f, Br.okE_eq, Br.cF, Br.x_for, ne_eq, reduceCtorEq, not_false_eq_true, implies_true, ER.bind_ok, ER.bind_ex, ER.bind_st, ER.so_ok, ER.so_ex, ER.so_st, ER.of_some, ER.of_none, SO.of_some, SO.of_none, Br.bindS_k, Br.bindK_some, Br.bindK_none, Tg.bind, Tg.binds, slotInt, at', setIxP, AV.pvs, AV.pv, AV.lvs, AV.lv, AV.refs, AV.back, maskL, LV.isFro, LV.pv, Br.callE_k, Br.callK0_some, Br.callK_ok, Br.callK_ex, froE, Br.opX_add, Br.opX_sub, Br.opX_mul, Br.opX_fdiv, Br.opX_mod, Br.opX_pow, Br.opX_neg, Br.opX_eq, Br.opX_ne, Br.opX_lt, Br.opX_le, Br.opX_gt, Br.opX_ge, Br.opX_isN, Br.opX_isNN, Br.opX_inn, Br.opX_nin, Br.opX_len, Br.opX_sum, Br.opX_abs, Br.opX_int1, Br.opX_str1, Br.opX_tuple1, Br.opX_list1, Br.opX_sorted, Br.opX_allL, Br.opX_anyL, Br.opX_min2, Br.opX_max2, Br.opX_minL, Br.opX_maxL, Br.opX_idx, Br.opX_rev, Br.opX_dget, Br.opX_values, Br.opX_dmod, Br.opX_lcnt, Br.opX_tcnt, Br.opX_lidx, Br.opX_bits, Br.opX_sortedD, Br.opX_minD, Br.opX_maxD, Br.opX_isB, Br.opX_isNB, Br.opX_isTy, Br.opX_slc, Br.opX_lsetX, Br.opX_slcX, Br.opX_revX, Br.opX_mkX, mkXP, slcXP, revXP, Br.opX_isEx, Br.opX_dict1, Br.opX_dictT, Br.opX_tupleX, Br.dn_non, Br.dn_bl, Br.dn_int, Br.dn_str, Br.dn_ty, Br.dn_exc, Br.dn_tup, Br.dn_xt, Br.dn_lst, Br.dn_dK, Br.dn_dT, Br.dn_dX, Br.dn_dn, Br.isD_dn, Br.eqP_dnl, Br.eqP_dnr, tupleXP, opSem, addP, subP, mulP, fdivP, modP, powP, negP, eqOP, neOP, ltOP, leOP, gtOP, geOP, isNP, isNNP, isBP, isNBP, PV.isNon, lenP, sumP, absP, int1P, str1P, tuple1P, list1P, min2P, max2P, idxP, slcP, slcPart, dmodP, isTyOP, isTys, isTyP, tyName, ownV, Op.new, wipeE, Br.backE_nil, Br.backE_cons, Br.froO_f, Br.froO_n, Br.froO_0, Br.froO_o, seqOf, parE, ownL, ownD, keyP, recvOk, PV.isD, PV.isT, Br.eqP_ii, Br.eqP_ss, Br.eqP_bb, Br.eqP_nn, Br.eqP_tt, Br.eqP_ll, Br.eqPs_00, Br.eqPs_0c, Br.eqPs_c0, Br.eqPs_cc, Br.eqPs_ints, Br.eqP_xl, Br.eqP_xr, Br.eqP_ni, Br.eqP_ns, Br.eqP_nt, Br.eqP_nl, Br.eqP_nb, Br.eqP_in, Br.eqP_is, Br.eqP_it, Br.eqP_il, Br.eqP_sn, Br.eqP_si, Br.eqP_st, Br.eqP_sl, Br.eqP_sb, Br.eqP_tn, Br.eqP_ti, Br.eqP_ts, Br.eqP_tl, Br.eqP_tb, Br.eqP_ln, Br.eqP_li, Br.eqP_ls, Br.eqP_lt, Br.eqP_lb, Br.eqP_bn, Br.eqP_bs, Br.eqP_bt, Br.eqP_bl, intsOf, List.getElem?_cons_zero, List.getElem?_cons_succ, List.getElem?_nil, List.set_cons_zero, List.set_cons_succ, List.map_cons, List.map_nil, List.cons_append, List.nil_append, List.length_cons, List.length_nil, List.replicate_succ, List.replicate_zero, List.append_nil, Option.bind_some, Option.bind_none, Option.map_some, Option.map_none, if_true, if_false, ite_true, ite_false, decide_true, decide_false, Bool.and_true, Bool.true_and, Bool.not_true, Bool.not_false, reduceIte, Option.isSome_some, Br.kit_NoneType_int, Br.kit_NoneType_bool, Br.kit_NoneType_str, Br.kit_NoneType_tuple, Br.kit_NoneType_list, Br.kit_NoneType_dict, Br.kit_bool_int, Br.kit_bool_bool, Br.kit_bool_str, Br.kit_bool_tuple, Br.kit_bool_list, Br.kit_bool_dict, Br.kit_int_int, Br.kit_int_bool, Br.kit_int_str, Br.kit_int_tuple, Br.kit_int_list, Br.kit_int_dict, Br.kit_str_int, Br.kit_str_bool, Br.kit_str_str, Br.kit_str_tuple, Br.kit_str_list, Br.kit_str_dict, Br.kit_tuple_int, Br.kit_tuple_bool, Br.kit_tuple_str, Br.kit_tuple_tuple, Br.kit_tuple_list, Br.kit_tuple_dict, Br.kit_list_int, Br.kit_list_bool, Br.kit_list_str, Br.kit_list_tuple, Br.kit_list_list, Br.kit_list_dict, Br.kit_dict_int, Br.kit_dict_bool, Br.kit_dict_str, Br.kit_dict_tuple, Br.kit_dict_list, Br.kit_dict_dict, L2.ixN, Br.rng_ok, Br.mul_ok_r, Br.mul_ok_l, LIM, Br.PV.i_int, Br.log2_lt_9000, Br.atI_0, Br.atI_1, Br.atI_2, lcntP, lidxP, bitsP, revP, cntP, sortedDP, minDP, maxDP, sortX, Br.x_try, Br.tryK_nx, Br.tryK_rt, Br.tryK_bk, Br.tryK_ct, Br.suiteX_nx, Br.suiteX_bk, Br.suiteX_ct, Br.suiteX_rt, Br.setX_some, Br.setX_none, Br.goneX_some, Br.goneX_none, Br.x_lock, Br.kLock_d, Br.lockR_nx, Br.lockR_rt, Br.l_callN', Br.v_callN, Br.kN1, Br.kN2_eq, Br.newL_t, Br.newL_f, Br.l_callT', Br.v_callT, Br.kT1, Br.kT2, Br.kT3, Br.kT4_eq, Br.dropT_ok, Br.dropT_ex, Br.dropT_st, Br.sh_val, Br.sh_ref, Br.kXt, Br.v_xtup, Br.l_xtup, Br.lockV_s, Br.thin_0, Br.thin_c, Br.thinO_n, Br.thinO_s, Br.thinL_f, Br.thinL_l, Br.thinL_d, Br.thinL_t, Br.noD_n, Br.noD_b, Br.noD_i, Br.noD_s, Br.noD_e, Br.noD_t, Br.noD_x, Br.noD_l, Br.noD_d, Br.noDs_0, Br.noDs_c, Br.noDs_i, Br.v_dnewT, Br.v_dnewX, Br.l_dnewT', Br.l_dnewX', Br.opX_idxT, Br.opX_dgetT, Br.opX_innT, Br.opX_ninT, Br.opX_sortT, idxTP, dgetTP, innTP, ninTP, sortTP, Br.opX_strD, Br.opX_max2D, Br.opX_valsL, Br.opX_valsS, Br.opX_minV, Br.opX_minT, Br.opX_sset, Br.opX_ssetT, Br.opX_lset, Br.opX_join, Br.opX_split, Br.opX_strip2, Br.opX_intS, Br.opX_idxS, Br.opX_inS, Br.opX_addX, addXP, minVP, minTP, valsLP, valsSP, tcntP, tupleXP, Br.l_mcall', Br.v_mcall, Br.kMc, Br.l_make', Br.kMk, Br.madeT_ok, Br.madeT_st, Br.v_fld, Br.fldE_some, Br.l_fld, Br.v_fop, Br.fldO_fro, Br.fldO_own, Br.l_fop', Br.x_fset, Br.x_fnew, Br.x_fappV, Br.x_fappT, fsetS, fnewS, fappS, Br.froAt, insLs, insAt, Br.l_sel', Br.v_sel, Br.kSel_0, Br.kSel_1, Br.v_frz, Br.l_frz', Br.v_ofld, Br.l_ofld, Br.v_fix, Br.l_fix, Br.fixP_s, Br.ixOf_l, Br.ixOf_r, Br.ofldP_s, Br.l_mcallR', Br.v_mcallR, Br.kMr, Br.callR_k, Br.callR1_s, Br.callR2_ok, Br.pvsL_0, Br.pvsL_f, Br.pvsL_o, Br.bare_f, Br.bare_l, Br.bare_i, PV.bare, Br.x_fsetIx, fsetIxS, Br.x_fappE, Br.kFa0_s, Br.kFa_l, fappES, Br.dn_gt, Br.dn_obj, and_self, Br.opX_max3, Br.opX_min3, max3P, min3P, hb]); all_goals rfl⟩
  omega
set_option maxHeartbeats 0
def ir_law_signs_b991 : Fn := ⟨1, 0, [], [.set 0 (.cst (.str " !\"#$&'()*+,-./0123456789:;<=>?@ABCDEFGHIJKLMNOPQRSTUVWXYZ[\\]^_`abcdefghijklmnopqrstuvwxyz{|}~")), .retV 0]⟩
def ph_law_signs_b991 : Nat → List LV → CR := fun j => match j with | _ => fun _ => .st
def g_law_signs_b991 : List LV → CR := runFn ph_law_signs_b991 1000000 ir_law_signs_b991
theorem signs_b991 : ∃ z : PySem.Str, z.cps.toList.length = 94 ∧ z.length ≤ 1000000 ∧ g_law_signs_b991 [] = .ok (.fro (.str z)) [] := by
  refine ⟨_, ?_, ?_, by
    (unfold g_law_signs_b991 ir_law_signs_b991; rw [runFn_eq _ _ _ _ ⟨rfl, by decide, rfl⟩])
    simp -implicitDefEqProofs [evx]
    rfl⟩
  · decide +kernel
  · decide +kernel
set_option maxHeartbeats 0
/-! greatest parts -/
set_option maxHeartbeats 0
def wt_greatest_part_8724_1 : Br.Tst := .e (.app .gt [.ref 3, .val (.cst (.int 0))])
def bd_greatest_part_8724_1 : List Br.St := [.par [2, 3] [.var 3, .app .mod [.ref 2, .ref 3]]]
def ir_greatest_part_8724 : Fn := ⟨4, 2, [0, 1], [.set 2 (.app .abs [.ref 0]), .set 3 (.app .abs [.ref 1]), .whl wt_greatest_part_8724_1 bd_greatest_part_8724_1, .retV 2]⟩
def ph_greatest_part_8724 : Nat → List LV → CR := fun j => match j with | _ => fun _ => .st
def g_greatest_part_8724 : List LV → CR := runFn ph_greatest_part_8724 1000000 ir_greatest_part_8724
-- use: U_gcd
set_option maxHeartbeats 0
def bd_law_draws_0ff0_1 : List Br.St := [.set 6 (.app .add [.val (.app .mul [.ref 6, .val (.cst (.int 1152921504606846976))]), .val (.app .mod [.val (.call 209 [.ref 0, .val (.app .add [.val (.app .mul [.val (.cst (.int 5)), .ref 5]), .ref 7])]), .val (.cst (.int 1152921504606846976))])])]
def bd_law_draws_0ff0_2 : List Br.St := [.ite (.e (.app .gt [.ref 4, .val (.cst (.int 0))])) [.app 3 (.app .mod [.ref 4, .ref 2]), .set 4 (.app .fdiv [.ref 4, .ref 2])] [.set 6 (.cst (.int 0)), .for (.rng1 (.app .add [.val (.cst (.int 1)), .val (.app .mul [.val (.app .int1 [.val (.app .gt [.ref 2, .val (.app .pow [.val (.cst (.int 10)), .val (.cst (.int 18))])])]), .val (.cst (.int 3))])])) (.one 7) bd_law_draws_0ff0_1, .app 3 (.app .mod [.ref 6, .ref 2])]]
def ir_law_draws_0ff0 : Fn := ⟨8, 3, [0, 1, 2], [.set 3 (.lst []), .set 4 (.cst (.int 0)), .ite (.e (.app .ge [.ref 0, .val (.app .pow [.val (.cst (.int 10)), .val (.cst (.int 18))])])) [.set 4 (.app .sub [.ref 0, .val (.app .pow [.val (.cst (.int 10)), .val (.cst (.int 18))])])] [], .for (.rng1 (.var 1)) (.one 5) bd_law_draws_0ff0_2, .retV 3]⟩
def ph_law_draws_0ff0 : Nat → List LV → CR := fun j => match j with | 209 => g_law_mixed_a529 | _ => fun _ => .st
def g_law_draws_0ff0 : List LV → CR := runFn ph_law_draws_0ff0 1000000 ir_law_draws_0ff0
theorem draws_0ff0 (c m b : Int) (hm : 0 ≤ m) (hm2 : m < 1000) (hb : 0 < b) (hb2 : b < 2 ^ 256) : ∃ ds : List Int, ds.length = m.toNat ∧ (∀ d ∈ ds, 0 ≤ d ∧ d < b) ∧
    g_law_draws_0ff0 [.fro (.int c), .fro (.int m), .fro (.int b)] = .ok (.own (.lst (ds.map .int))) [.fro (.int c), .fro (.int m), .fro (.int b)] := by
  (unfold g_law_draws_0ff0 ir_law_draws_0ff0; rw [runFn_eq _ _ _ _ ⟨rfl, by decide, rfl⟩])
  have hbl : b.natAbs.log2 < 9000 := log2_lt_9000 (by omega)
  have hr : rngOk m := rng_ok (by omega) (by omega)
  have inner : ∀ (l3 l4 l5 : Option LV) (k : Int) (l7 : Option LV) (l5' : l5 = some (.fro (.int k))), ∃ (N : Int) (l7' : Option LV), 0 ≤ N ∧ 
      forL (bindS (exSs ph_law_draws_0ff0 1000000 bd_law_draws_0ff0_1) (.one 7)) (rngP 0 (1 + (if decide (1000000000000000000 < b) = true then 1 else 0) * 3)) [some (.fro (.int c)), some (.fro (.int m)), some (.fro (.int b)), l3, l4, l5, some (.fro (.int 0)), l7]
        = .nx [some (.fro (.int c)), some (.fro (.int m)), some (.fro (.int b)), l3, l4, l5, some (.fro (.int N)), l7'] := fun l3 l4 l5 k l7 h5 => by
    subst h5
    obtain ⟨ρ', h1, N, l7', hN, rfl⟩ := forL_inv (f := bindS (exSs ph_law_draws_0ff0 1000000 bd_law_draws_0ff0_1) (.one 7)) (xs := rngP 0 (1 + (if decide (1000000000000000000 < b) = true then 1 else 0) * 3))
      (ρ := [some (.fro (.int c)), some (.fro (.int m)), some (.fro (.int b)), l3, l4, some (.fro (.int k)), some (.fro (.int 0)), l7])
      (fun i ρ => ∃ (N : Int) (l7' : Option LV), 0 ≤ N ∧ ρ = [some (.fro (.int c)), some (.fro (.int m)), some (.fro (.int b)), l3, l4, some (.fro (.int k)), some (.fro (.int N)), l7'])
      ⟨0, l7, by omega, rfl⟩
      (fun i x ρ hx hi => by
        obtain ⟨N, l7', hN, rfl⟩ := hi
        obtain ⟨rfl, _⟩ := rngP_at hx
        obtain ⟨r, hr0, er⟩ := mixed_a529 c (5 * k + (0 + (i : Nat)))
        rw [Int.zero_add] at er
        refine ⟨_, .inl (by (conv => lhs; simp -implicitDefEqProofs [ioOk, Br.frameOf, lvsOf, Br.exSs_nil, Br.exSs_cons, SO.seq_nx, SO.seq_rt, SO.seq_ex, SO.seq_bk, SO.seq_ct, SO.seq_st, SO.fin_nx, SO.fin_rt, SO.fin_ex, Br.v_app, Br.v_mth, Br.v_tup, Br.v_lst, Br.v_cst, Br.v_dnew, Br.v_var, Br.v_call, Br.v_and, Br.v_or, Br.v_not, Br.v_ite, Br.v_chain, Br.v_chain3, Br.kCh33, Br.kCh32b, Br.kCh32, Br.kCh31, Br.v_sl2, Br.v_comp, Br.v_compK, Br.v_compO, Br.kCO_l, Br.putO_ok, Br.kCK_d, Br.kCK_t, Br.lockE_ok, Br.v_aref, Br.v_aval, Br.v_as0, Br.v_as, Br.v_es0, Br.v_es, Br.v_tand, Br.v_tor, Br.v_tnot, Br.v_te, Br.v_ts0, Br.v_ts1, Br.v_seq, Br.v_seqS, Br.kSeqS, Br.v_rng1, Br.v_rng2, Br.v_enum, Br.v_zip, Br.v_popE, Br.v_dispV, Br.l_dispV', Br.v_popD, Br.l_popD, Br.kPopD_eq, Br.v_disp1, Br.l_disp1', Br.kD1_eq, Br.kD2_i, Br.calm_ok, Br.v_popL, Br.l_popE, Br.l_popL, Br.kPopE_eq, Br.putE_some, Br.putE_none, Br.v_rev, Br.l_app, Br.l_mth', Br.l_lst', Br.l_dnew', Br.l_call', Br.l_comp', Br.l_compK', Br.l_compO', Br.l_mvv', Br.kMv_o, Br.kMv_f, Br.l_var, Br.l_cst, Br.l_tup, Br.l_and, Br.l_or, Br.l_not, Br.l_ite, Br.l_chain, Br.l_chain3, Br.l_sl2, Br.x_set, Br.x_unp, Br.x_par, Br.x_setIx, Br.x_app, Br.x_ext, Br.x_popA, Br.x_insA, Br.kPopA, Br.kIns1, Br.kIns2, Br.x_ex, Br.x_ret, Br.x_retV, Br.x_retN, Br.x_if, Br.x_whl, Br.x_brk, Br.x_cont, Br.x_pass, Br.x_raise, Br.kOp, Br.kVal, Br.kCons, Br.kAs, Br.kConsE, Br.kEs, Br.kTup, Br.kLst, Br.kCall, Br.kMth2, Br.kMth, Br.kAnd, Br.kOr, Br.kNot, Br.kIte, Br.kCh4, Br.kCh3, Br.kCh2b, Br.kCh2, Br.kCh1, Br.kS3, Br.kS2, Br.kS1, Br.kC6, Br.kC5, Br.kC4, Br.kC3, Br.kC0, Br.kC2, Br.kC1, Br.kTand, Br.kTor, Br.kTnot, Br.kTe, Br.kSeq, Br.kR1, Br.kR3, Br.kR2, Br.kEn, Br.kZ2, Br.kZ1, Br.kRv, Br.kOwn, Br.kFro, Br.kOwnV, Br.kCallL, Br.kSet, Br.kUnp, Br.kPar, Br.kSI2, Br.kSI1, Br.kApp, Br.kExt, Br.kEx, Br.kRet, Br.kIf, Br.kFor, Br.ifE_t, Br.ifE_f, Br.ifS_t, Br.ifS_f, Br.okE_eq, Br.cF, Br.x_for, ne_eq, reduceCtorEq, not_false_eq_true, implies_true, ER.bind_ok, ER.bind_ex, ER.bind_st, ER.so_ok, ER.so_ex, ER.so_st, ER.of_some, ER.of_none, SO.of_some, SO.of_none, Br.bindS_k, Br.bindK_some, Br.bindK_none, Tg.bind, Tg.binds, slotInt, at', setIxP, AV.pvs, AV.pv, AV.lvs, AV.lv, AV.refs, AV.back, maskL, LV.isFro, LV.pv, Br.callE_k, Br.callK0_some, Br.callK_ok, Br.callK_ex, froE, Br.opX_add, Br.opX_sub, Br.opX_mul, Br.opX_fdiv, Br.opX_mod, Br.opX_pow, Br.opX_neg, Br.opX_eq, Br.opX_ne, Br.opX_lt, Br.opX_le, Br.opX_gt, Br.opX_ge, Br.opX_isN, Br.opX_isNN, Br.opX_inn, Br.opX_nin, Br.opX_len, Br.opX_sum, Br.opX_abs, Br.opX_int1, Br.opX_str1, Br.opX_tuple1, Br.opX_list1, Br.opX_sorted, Br.opX_allL, Br.opX_anyL, Br.opX_min2, Br.opX_max2, Br.opX_minL, Br.opX_maxL, Br.opX_idx, Br.opX_rev, Br.opX_dget, Br.opX_values, Br.opX_dmod, Br.opX_lcnt, Br.opX_tcnt, Br.opX_lidx, Br.opX_bits, Br.opX_sortedD, Br.opX_minD, Br.opX_maxD, Br.opX_isB, Br.opX_isNB, Br.opX_isTy, Br.opX_slc, Br.opX_lsetX, Br.opX_slcX, Br.opX_revX, Br.opX_mkX, mkXP, slcXP, revXP, Br.opX_isEx, Br.opX_dict1, Br.opX_dictT, Br.opX_tupleX, Br.dn_non, Br.dn_bl, Br.dn_int, Br.dn_str, Br.dn_ty, Br.dn_exc, Br.dn_tup, Br.dn_xt, Br.dn_lst, Br.dn_dK, Br.dn_dT, Br.dn_dX, Br.dn_dn, Br.isD_dn, Br.eqP_dnl, Br.eqP_dnr, tupleXP, opSem, addP, subP, mulP, fdivP, modP, powP, negP, eqOP, neOP, ltOP, leOP, gtOP, geOP, isNP, isNNP, isBP, isNBP, PV.isNon, lenP, sumP, absP, int1P, str1P, tuple1P, list1P, min2P, max2P, idxP, slcP, slcPart, dmodP, isTyOP, isTys, isTyP, tyName, ownV, Op.new, wipeE, Br.backE_nil, Br.backE_cons, Br.froO_f, Br.froO_n, Br.froO_0, Br.froO_o, seqOf, parE, ownL, ownD, keyP, recvOk, PV.isD, PV.isT, Br.eqP_ii, Br.eqP_ss, Br.eqP_bb, Br.eqP_nn, Br.eqP_tt, Br.eqP_ll, Br.eqPs_00, Br.eqPs_0c, Br.eqPs_c0, Br.eqPs_cc, Br.eqPs_ints, Br.eqP_xl, Br.eqP_xr, Br.eqP_ni, Br.eqP_ns, Br.eqP_nt, Br.eqP_nl, Br.eqP_nb, Br.eqP_in, Br.eqP_is, Br.eqP_it, Br.eqP_il, Br.eqP_sn, Br.eqP_si, Br.eqP_st, Br.eqP_sl, Br.eqP_sb, Br.eqP_tn, Br.eqP_ti, Br.eqP_ts, Br.eqP_tl, Br.eqP_tb, Br.eqP_ln, Br.eqP_li, Br.eqP_ls, Br.eqP_lt, Br.eqP_lb, Br.eqP_bn, Br.eqP_bs, Br.eqP_bt, Br.eqP_bl, intsOf, List.getElem?_cons_zero, List.getElem?_cons_succ, List.getElem?_nil, List.set_cons_zero, List.set_cons_succ, List.map_cons, List.map_nil, List.cons_append, List.nil_append, List.length_cons, List.length_nil, List.replicate_succ, List.replicate_zero, List.append_nil, Option.bind_some, Option.bind_none, Option.map_some, Option.map_none, if_true, if_false, ite_true, ite_false, decide_true, decide_false, Bool.and_true, Bool.true_and, Bool.not_true, Bool.not_false, reduceIte, Option.isSome_some, Br.kit_NoneType_int, Br.kit_NoneType_bool, Br.kit_NoneType_str, Br.kit_NoneType_tuple, Br.kit_NoneType_list, Br.kit_NoneType_dict, Br.kit_bool_int, Br.kit_bool_bool, Br.kit_bool_str, Br.kit_bool_tuple, Br.kit_bool_list, Br.kit_bool_dict, Br.kit_int_int, Br.kit_int_bool, Br.kit_int_str, Br.kit_int_tuple, Br.kit_int_list, Br.kit_int_dict, Br.kit_str_int, Br.kit_str_bool, Br.kit_str_str, Br.kit_str_tuple, Br.kit_str_list, Br.kit_str_dict, Br.kit_tuple_int, Br.kit_tuple_bool, Br.kit_tuple_str, Br.kit_tuple_tuple, Br.kit_tuple_list, Br.kit_tuple_dict, Br.kit_list_int, Br.kit_list_bool, Br.kit_list_str, Br.kit_list_tuple, Br.kit_list_list, Br.kit_list_dict, Br.kit_dict_int, Br.kit_dict_bool, Br.kit_dict_str, Br.kit_dict_tuple, Br.kit_dict_list, Br.kit_dict_dict, L2.ixN, Br.rng_ok, Br.mul_ok_r, Br.mul_ok_l, LIM, Br.PV.i_int, Br.log2_lt_9000, Br.atI_0, Br.atI_1, Br.atI_2, lcntP, lidxP, bitsP, revP, cntP, sortedDP, minDP, maxDP, sortX, Br.x_try, Br.tryK_nx, Br.tryK_rt, Br.tryK_bk, Br.tryK_ct, Br.suiteX_nx, Br.suiteX_bk, Br.suiteX_ct, Br.suiteX_rt, Br.setX_some, Br.setX_none, Br.goneX_some, Br.goneX_none, Br.x_lock, Br.kLock_d, Br.lockR_nx, Br.lockR_rt, Br.l_callN', Br.v_callN, Br.kN1, Br.kN2_eq, Br.newL_t, Br.newL_f, Br.l_callT', Br.v_callT, Br.kT1, Br.kT2, Br.kT3, Br.kT4_eq, Br.dropT_ok, Br.dropT_ex, Br.dropT_st, Br.sh_val, Br.sh_ref, Br.kXt, Br.v_xtup, Br.l_xtup, Br.lockV_s, Br.thin_0, Br.thin_c, Br.thinO_n, Br.thinO_s, Br.thinL_f, Br.thinL_l, Br.thinL_d, Br.thinL_t, Br.noD_n, Br.noD_b, Br.noD_i, Br.noD_s, Br.noD_e, Br.noD_t, Br.noD_x, Br.noD_l, Br.noD_d, Br.noDs_0, Br.noDs_c, Br.noDs_i, Br.v_dnewT, Br.v_dnewX, Br.l_dnewT', Br.l_dnewX', Br.opX_idxT, Br.opX_dgetT, Br.opX_innT, Br.opX_ninT, Br.opX_sortT, idxTP, dgetTP, innTP, ninTP, sortTP, Br.opX_strD, Br.opX_max2D, Br.opX_valsL, Br.opX_valsS, Br.opX_minV, Br.opX_minT, Br.opX_sset, Br.opX_ssetT, Br.opX_lset, Br.opX_join, Br.opX_split, Br.opX_strip2, Br.opX_intS, Br.opX_idxS, Br.opX_inS, Br.opX_addX, addXP, minVP, minTP, valsLP, valsSP, tcntP, tupleXP, Br.l_mcall', Br.v_mcall, Br.kMc, Br.l_make', Br.kMk, Br.madeT_ok, Br.madeT_st, Br.v_fld, Br.fldE_some, Br.l_fld, Br.v_fop, Br.fldO_fro, Br.fldO_own, Br.l_fop', Br.x_fset, Br.x_fnew, Br.x_fappV, Br.x_fappT, fsetS, fnewS, fappS, Br.froAt, insLs, insAt, Br.l_sel', Br.v_sel, Br.kSel_0, Br.kSel_1, Br.v_frz, Br.l_frz', Br.v_ofld, Br.l_ofld, Br.v_fix, Br.l_fix, Br.fixP_s, Br.ixOf_l, Br.ixOf_r, Br.ofldP_s, Br.l_mcallR', Br.v_mcallR, Br.kMr, Br.callR_k, Br.callR1_s, Br.callR2_ok, Br.pvsL_0, Br.pvsL_f, Br.pvsL_o, Br.bare_f, Br.bare_l, Br.bare_i, PV.bare, Br.x_fsetIx, fsetIxS, Br.x_fappE, Br.kFa0_s, Br.kFa_l, fappES, Br.dn_gt, Br.dn_obj, and_self, Br.opX_max3, Br.opX_min3, max3P, min3P, bd_law_draws_0ff0_1, ph_law_draws_0ff0, er]); all_goals rfl), _, _, ?_, rfl⟩
        omega)
    exact ⟨N, l7', hN, h1⟩
  have outer : ∀ left : Int, ∃ ρ', forL (bindS (exSs ph_law_draws_0ff0 1000000 bd_law_draws_0ff0_2) (.one 5)) (rngP 0 m) [some (.fro (.int c)), some (.fro (.int m)), some (.fro (.int b)), some (.own (.lst [])), some (.fro (.int left)), none, none, none] = .nx ρ' ∧
      ∃ (ds : List Int) (left : Int) (l5 l6 l7 : Option LV), ds.length = (rngP 0 m).length ∧ (∀ d ∈ ds, 0 ≤ d ∧ d < b) ∧ ρ' = [some (.fro (.int c)), some (.fro (.int m)), some (.fro (.int b)), some (.own (.lst (ds.map .int))), some (.fro (.int left)), l5, l6, l7] := fun left =>
    forL_inv (fun i ρ => ∃ (ds : List Int) (left : Int) (l5 l6 l7 : Option LV), ds.length = i ∧ (∀ d ∈ ds, 0 ≤ d ∧ d < b) ∧ ρ = [some (.fro (.int c)), some (.fro (.int m)), some (.fro (.int b)), some (.own (.lst (ds.map .int))), some (.fro (.int left)), l5, l6, l7])
      ⟨[], left, _, _, _, rfl, by simp, rfl⟩
      (fun i x ρ hx hi => by
        obtain ⟨ds, left, l5, l6, l7, hlen, hd, rfl⟩ := hi
        obtain ⟨rfl, hi2⟩ := rngP_at hx
        have hl : ds.length < 1000000 := by omega
        have app : ∀ z : Int, ∀ d ∈ ds ++ [z % b], 0 ≤ d ∧ d < b := fun z d h => by
          rcases List.mem_append.mp h with h | h
          · exact hd d h
          · simp at h; subst h; exact ⟨Int.emod_nonneg z (by omega), Int.emod_lt_of_pos z hb⟩
        by_cases h0 : 0 < left
        · exact ⟨_, .inl (by (conv => lhs; simp -implicitDefEqProofs [ioOk, Br.frameOf, lvsOf, Br.exSs_nil, Br.exSs_cons, SO.seq_nx, SO.seq_rt, SO.seq_ex, SO.seq_bk, SO.seq_ct, SO.seq_st, SO.fin_nx, SO.fin_rt, SO.fin_ex, Br.v_app, Br.v_mth, Br.v_tup, Br.v_lst, Br.v_cst, Br.v_dnew, Br.v_var, Br.v_call, Br.v_and, Br.v_or, Br.v_not, Br.v_ite, Br.v_chain, Br.v_chain3, Br.kCh33, Br.kCh32b, Br.kCh32, Br.kCh31, Br.v_sl2, Br.v_comp, Br.v_compK, Br.v_compO, Br.kCO_l, Br.putO_ok, Br.kCK_d, Br.kCK_t, Br.lockE_ok, Br.v_aref, Br.v_aval, Br.v_as0, Br.v_as, Br.v_es0, Br.v_es, Br.v_tand, Br.v_tor, Br.v_tnot, Br.v_te, Br.v_ts0, Br.v_ts1, Br.v_seq, Br.v_seqS, Br.kSeqS, Br.v_rng1, Br.v_rng2, Br.v_enum, Br.v_zip, Br.v_popE, Br.v_dispV, Br.l_dispV', Br.v_popD, Br.l_popD, Br.kPopD_eq, Br.v_disp1, Br.l_disp1', Br.kD1_eq, Br.kD2_i, Br.calm_ok, Br.v_popL, Br.l_popE, Br.l_popL, Br.kPopE_eq, Br.putE_some, Br.putE_none, Br.v_rev, Br.l_app, Br.l_mth', Br.l_lst', Br.l_dnew', Br.l_call', Br.l_comp', Br.l_compK', Br.l_compO', Br.l_mvv', Br.kMv_o, Br.kMv_f, Br.l_var, Br.l_cst, Br.l_tup, Br.l_and, Br.l_or, Br.l_not, Br.l_ite, Br.l_chain, Br.l_chain3, Br.l_sl2, Br.x_set, Br.x_unp, Br.x_par, Br.x_setIx, Br.x_app, Br.x_ext, Br.x_popA, Br.x_insA, Br.kPopA, Br.kIns1, Br.kIns2, Br.x_ex, Br.x_ret, Br.x_retV, Br.x_retN, Br.x_if, Br.x_whl, Br.x_brk, Br.x_cont, Br.x_pass, Br.x_raise, Br.kOp, Br.kVal, Br.kCons, Br.kAs, Br.kConsE, Br.kEs, Br.kTup, Br.kLst, Br.kCall, Br.kMth2, Br.kMth, Br.kAnd, Br.kOr, Br.kNot, Br.kIte, Br.kCh4, Br.kCh3, Br.kCh2b, Br.kCh2, Br.kCh1, Br.kS3, Br.kS2, Br.kS1, Br.kC6, Br.kC5, Br.kC4, Br.kC3, Br.kC0, Br.kC2, Br.kC1, Br.kTand, Br.kTor, Br.kTnot, Br.kTe, Br.kSeq, Br.kR1, Br.kR3, Br.kR2, Br.kEn, Br.kZ2, Br.kZ1, Br.kRv, Br.kOwn, Br.kFro, Br.kOwnV, Br.kCallL, Br.kSet, Br.kUnp, Br.kPar, Br.kSI2, Br.kSI1, Br.kApp, Br.kExt, Br.kEx, Br.kRet, Br.kIf, Br.kFor, Br.ifE_t, Br.ifE_f, Br.ifS_t, Br.ifS_f, Br.okE_eq, Br.cF, Br.x_for, ne_eq, reduceCtorEq, not_false_eq_true, implies_true, ER.bind_ok, ER.bind_ex, ER.bind_st, ER.so_ok, ER.so_ex, ER.so_st, ER.of_some, ER.of_none, SO.of_some, SO.of_none, Br.bindS_k, Br.bindK_some, Br.bindK_none, Tg.bind, Tg.binds, slotInt, at', setIxP, AV.pvs, AV.pv, AV.lvs, AV.lv, AV.refs, AV.back, maskL, LV.isFro, LV.pv, Br.callE_k, Br.callK0_some, Br.callK_ok, Br.callK_ex, froE, Br.opX_add, Br.opX_sub, Br.opX_mul, Br.opX_fdiv, Br.opX_mod, Br.opX_pow, Br.opX_neg, Br.opX_eq, Br.opX_ne, Br.opX_lt, Br.opX_le, Br.opX_gt, Br.opX_ge, Br.opX_isN, Br.opX_isNN, Br.opX_inn, Br.opX_nin, Br.opX_len, Br.opX_sum, Br.opX_abs, Br.opX_int1, Br.opX_str1, Br.opX_tuple1, Br.opX_list1, Br.opX_sorted, Br.opX_allL, Br.opX_anyL, Br.opX_min2, Br.opX_max2, Br.opX_minL, Br.opX_maxL, Br.opX_idx, Br.opX_rev, Br.opX_dget, Br.opX_values, Br.opX_dmod, Br.opX_lcnt, Br.opX_tcnt, Br.opX_lidx, Br.opX_bits, Br.opX_sortedD, Br.opX_minD, Br.opX_maxD, Br.opX_isB, Br.opX_isNB, Br.opX_isTy, Br.opX_slc, Br.opX_lsetX, Br.opX_slcX, Br.opX_revX, Br.opX_mkX, mkXP, slcXP, revXP, Br.opX_isEx, Br.opX_dict1, Br.opX_dictT, Br.opX_tupleX, Br.dn_non, Br.dn_bl, Br.dn_int, Br.dn_str, Br.dn_ty, Br.dn_exc, Br.dn_tup, Br.dn_xt, Br.dn_lst, Br.dn_dK, Br.dn_dT, Br.dn_dX, Br.dn_dn, Br.isD_dn, Br.eqP_dnl, Br.eqP_dnr, tupleXP, opSem, addP, subP, mulP, fdivP, modP, powP, negP, eqOP, neOP, ltOP, leOP, gtOP, geOP, isNP, isNNP, isBP, isNBP, PV.isNon, lenP, sumP, absP, int1P, str1P, tuple1P, list1P, min2P, max2P, idxP, slcP, slcPart, dmodP, isTyOP, isTys, isTyP, tyName, ownV, Op.new, wipeE, Br.backE_nil, Br.backE_cons, Br.froO_f, Br.froO_n, Br.froO_0, Br.froO_o, seqOf, parE, ownL, ownD, keyP, recvOk, PV.isD, PV.isT, Br.eqP_ii, Br.eqP_ss, Br.eqP_bb, Br.eqP_nn, Br.eqP_tt, Br.eqP_ll, Br.eqPs_00, Br.eqPs_0c, Br.eqPs_c0, Br.eqPs_cc, Br.eqPs_ints, Br.eqP_xl, Br.eqP_xr, Br.eqP_ni, Br.eqP_ns, Br.eqP_nt, Br.eqP_nl, Br.eqP_nb, Br.eqP_in, Br.eqP_is, Br.eqP_it, Br.eqP_il, Br.eqP_sn, Br.eqP_si, Br.eqP_st, Br.eqP_sl, Br.eqP_sb, Br.eqP_tn, Br.eqP_ti, Br.eqP_ts, Br.eqP_tl, Br.eqP_tb, Br.eqP_ln, Br.eqP_li, Br.eqP_ls, Br.eqP_lt, Br.eqP_lb, Br.eqP_bn, Br.eqP_bs, Br.eqP_bt, Br.eqP_bl, intsOf, List.getElem?_cons_zero, List.getElem?_cons_succ, List.getElem?_nil, List.set_cons_zero, List.set_cons_succ, List.map_cons, List.map_nil, List.cons_append, List.nil_append, List.length_cons, List.length_nil, List.replicate_succ, List.replicate_zero, List.append_nil, Option.bind_some, Option.bind_none, Option.map_some, Option.map_none, if_true, if_false, ite_true, ite_false, decide_true, decide_false, Bool.and_true, Bool.true_and, Bool.not_true, Bool.not_false, reduceIte, Option.isSome_some, Br.kit_NoneType_int, Br.kit_NoneType_bool, Br.kit_NoneType_str, Br.kit_NoneType_tuple, Br.kit_NoneType_list, Br.kit_NoneType_dict, Br.kit_bool_int, Br.kit_bool_bool, Br.kit_bool_str, Br.kit_bool_tuple, Br.kit_bool_list, Br.kit_bool_dict, Br.kit_int_int, Br.kit_int_bool, Br.kit_int_str, Br.kit_int_tuple, Br.kit_int_list, Br.kit_int_dict, Br.kit_str_int, Br.kit_str_bool, Br.kit_str_str, Br.kit_str_tuple, Br.kit_str_list, Br.kit_str_dict, Br.kit_tuple_int, Br.kit_tuple_bool, Br.kit_tuple_str, Br.kit_tuple_tuple, Br.kit_tuple_list, Br.kit_tuple_dict, Br.kit_list_int, Br.kit_list_bool, Br.kit_list_str, Br.kit_list_tuple, Br.kit_list_list, Br.kit_list_dict, Br.kit_dict_int, Br.kit_dict_bool, Br.kit_dict_str, Br.kit_dict_tuple, Br.kit_dict_list, Br.kit_dict_dict, L2.ixN, Br.rng_ok, Br.mul_ok_r, Br.mul_ok_l, LIM, Br.PV.i_int, Br.log2_lt_9000, Br.atI_0, Br.atI_1, Br.atI_2, lcntP, lidxP, bitsP, revP, cntP, sortedDP, minDP, maxDP, sortX, Br.x_try, Br.tryK_nx, Br.tryK_rt, Br.tryK_bk, Br.tryK_ct, Br.suiteX_nx, Br.suiteX_bk, Br.suiteX_ct, Br.suiteX_rt, Br.setX_some, Br.setX_none, Br.goneX_some, Br.goneX_none, Br.x_lock, Br.kLock_d, Br.lockR_nx, Br.lockR_rt, Br.l_callN', Br.v_callN, Br.kN1, Br.kN2_eq, Br.newL_t, Br.newL_f, Br.l_callT', Br.v_callT, Br.kT1, Br.kT2, Br.kT3, Br.kT4_eq, Br.dropT_ok, Br.dropT_ex, Br.dropT_st, Br.sh_val, Br.sh_ref, Br.kXt, Br.v_xtup, Br.l_xtup, Br.lockV_s, Br.thin_0, Br.thin_c, Br.thinO_n, Br.thinO_s, Br.thinL_f, Br.thinL_l, Br.thinL_d, Br.thinL_t, Br.noD_n, Br.noD_b, Br.noD_i, Br.noD_s, Br.noD_e, Br.noD_t, Br.noD_x, Br.noD_l, Br.noD_d, Br.noDs_0, Br.noDs_c, Br.noDs_i, Br.v_dnewT, Br.v_dnewX, Br.l_dnewT', Br.l_dnewX', Br.opX_idxT, Br.opX_dgetT, Br.opX_innT, Br.opX_ninT, Br.opX_sortT, idxTP, dgetTP, innTP, ninTP, sortTP, Br.opX_strD, Br.opX_max2D, Br.opX_valsL, Br.opX_valsS, Br.opX_minV, Br.opX_minT, Br.opX_sset, Br.opX_ssetT, Br.opX_lset, Br.opX_join, Br.opX_split, Br.opX_strip2, Br.opX_intS, Br.opX_idxS, Br.opX_inS, Br.opX_addX, addXP, minVP, minTP, valsLP, valsSP, tcntP, tupleXP, Br.l_mcall', Br.v_mcall, Br.kMc, Br.l_make', Br.kMk, Br.madeT_ok, Br.madeT_st, Br.v_fld, Br.fldE_some, Br.l_fld, Br.v_fop, Br.fldO_fro, Br.fldO_own, Br.l_fop', Br.x_fset, Br.x_fnew, Br.x_fappV, Br.x_fappT, fsetS, fnewS, fappS, Br.froAt, insLs, insAt, Br.l_sel', Br.v_sel, Br.kSel_0, Br.kSel_1, Br.v_frz, Br.l_frz', Br.v_ofld, Br.l_ofld, Br.v_fix, Br.l_fix, Br.fixP_s, Br.ixOf_l, Br.ixOf_r, Br.ofldP_s, Br.l_mcallR', Br.v_mcallR, Br.kMr, Br.callR_k, Br.callR1_s, Br.callR2_ok, Br.pvsL_0, Br.pvsL_f, Br.pvsL_o, Br.bare_f, Br.bare_l, Br.bare_i, PV.bare, Br.x_fsetIx, fsetIxS, Br.x_fappE, Br.kFa0_s, Br.kFa_l, fappES, Br.dn_gt, Br.dn_obj, and_self, Br.opX_max3, Br.opX_min3, max3P, min3P, bd_law_draws_0ff0_2, h0, hb, hbl, hl]); all_goals rfl), ds ++ [left % b], left / b, some (.fro (.int (i : Nat))), l6, l7, by simp [hlen], app left, by simp⟩
        · obtain ⟨N, l7', hN, e⟩ := inner (some (.own (.lst (ds.map .int)))) (some (.fro (.int left))) (some (.fro (.int (i : Nat)))) (i : Nat) l7 rfl
          have hrr : rngOk (1 + (if decide (1000000000000000000 < b) = true then 1 else 0) * 3) := rng_ok (by split <;> omega) (by split <;> omega)
          simp only [decide_eq_true_eq] at e hrr
          exact ⟨_, .inl (by (conv => lhs; simp -implicitDefEqProofs [ioOk, Br.frameOf, lvsOf, Br.exSs_nil, Br.exSs_cons, SO.seq_nx, SO.seq_rt, SO.seq_ex, SO.seq_bk, SO.seq_ct, SO.seq_st, SO.fin_nx, SO.fin_rt, SO.fin_ex, Br.v_app, Br.v_mth, Br.v_tup, Br.v_lst, Br.v_cst, Br.v_dnew, Br.v_var, Br.v_call, Br.v_and, Br.v_or, Br.v_not, Br.v_ite, Br.v_chain, Br.v_chain3, Br.kCh33, Br.kCh32b, Br.kCh32, Br.kCh31, Br.v_sl2, Br.v_comp, Br.v_compK, Br.v_compO, Br.kCO_l, Br.putO_ok, Br.kCK_d, Br.kCK_t, Br.lockE_ok, Br.v_aref, Br.v_aval, Br.v_as0, Br.v_as, Br.v_es0, Br.v_es, Br.v_tand, Br.v_tor, Br.v_tnot, Br.v_te, Br.v_ts0, Br.v_ts1, Br.v_seq, Br.v_seqS, Br.kSeqS, Br.v_rng1, Br.v_rng2, Br.v_enum, Br.v_zip, Br.v_popE, Br.v_dispV, Br.l_dispV', Br.v_popD, Br.l_popD, Br.kPopD_eq, Br.v_disp1, Br.l_disp1', Br.kD1_eq, Br.kD2_i, Br.calm_ok, Br.v_popL, Br.l_popE, Br.l_popL, Br.kPopE_eq, Br.putE_some, Br.putE_none, Br.v_rev, Br.l_app, Br.l_mth', Br.l_lst', Br.l_dnew', Br.l_call', Br.l_comp', Br.l_compK', Br.l_compO', Br.l_mvv', Br.kMv_o, Br.kMv_f, Br.l_var, Br.l_cst, Br.l_tup, Br.l_and, Br.l_or, Br.l_not, Br.l_ite, Br.l_chain, Br.l_chain3, Br.l_sl2, Br.x_set, Br.x_unp, Br.x_par, Br.x_setIx, Br.x_app, Br.x_ext, Br.x_popA, Br.x_insA, Br.kPopA, Br.kIns1, Br.kIns2, Br.x_ex, Br.x_ret, Br.x_retV, Br.x_retN, Br.x_if, Br.x_whl, Br.x_brk, Br.x_cont, Br.x_pass, Br.x_raise, Br.kOp, Br.kVal, Br.kCons, Br.kAs, Br.kConsE, Br.kEs, Br.kTup, Br.kLst, Br.kCall, Br.kMth2, Br.kMth, Br.kAnd, Br.kOr, Br.kNot, Br.kIte, Br.kCh4, Br.kCh3, Br.kCh2b, Br.kCh2, Br.kCh1, Br.kS3, Br.kS2, Br.kS1, Br.kC6, Br.kC5, Br.kC4, Br.kC3, Br.kC0, Br.kC2, Br.kC1, Br.kTand, Br.kTor, Br.kTnot, Br.kTe, Br.kSeq, Br.kR1, Br.kR3, Br.kR2, Br.kEn, Br.kZ2, Br.kZ1, Br.kRv, Br.kOwn, Br.kFro, Br.kOwnV, Br.kCallL, Br.kSet, Br.kUnp, Br.kPar, Br.kSI2, Br.kSI1, Br.kApp, Br.kExt, Br.kEx, Br.kRet, Br.kIf, Br.kFor, Br.ifE_t, Br.ifE_f, Br.ifS_t, Br.ifS_f, Br.okE_eq, Br.cF, Br.x_for, ne_eq, reduceCtorEq, not_false_eq_true, implies_true, ER.bind_ok, ER.bind_ex, ER.bind_st, ER.so_ok, ER.so_ex, ER.so_st, ER.of_some, ER.of_none, SO.of_some, SO.of_none, Br.bindS_k, Br.bindK_some, Br.bindK_none, Tg.bind, Tg.binds, slotInt, at', setIxP, AV.pvs, AV.pv, AV.lvs, AV.lv, AV.refs, AV.back, maskL, LV.isFro, LV.pv, Br.callE_k, Br.callK0_some, Br.callK_ok, Br.callK_ex, froE, Br.opX_add, Br.opX_sub, Br.opX_mul, Br.opX_fdiv, Br.opX_mod, Br.opX_pow, Br.opX_neg, Br.opX_eq, Br.opX_ne, Br.opX_lt, Br.opX_le, Br.opX_gt, Br.opX_ge, Br.opX_isN, Br.opX_isNN, Br.opX_inn, Br.opX_nin, Br.opX_len, Br.opX_sum, Br.opX_abs, Br.opX_int1, Br.opX_str1, Br.opX_tuple1, Br.opX_list1, Br.opX_sorted, Br.opX_allL, Br.opX_anyL, Br.opX_min2, Br.opX_max2, Br.opX_minL, Br.opX_maxL, Br.opX_idx, Br.opX_rev, Br.opX_dget, Br.opX_values, Br.opX_dmod, Br.opX_lcnt, Br.opX_tcnt, Br.opX_lidx, Br.opX_bits, Br.opX_sortedD, Br.opX_minD, Br.opX_maxD, Br.opX_isB, Br.opX_isNB, Br.opX_isTy, Br.opX_slc, Br.opX_lsetX, Br.opX_slcX, Br.opX_revX, Br.opX_mkX, mkXP, slcXP, revXP, Br.opX_isEx, Br.opX_dict1, Br.opX_dictT, Br.opX_tupleX, Br.dn_non, Br.dn_bl, Br.dn_int, Br.dn_str, Br.dn_ty, Br.dn_exc, Br.dn_tup, Br.dn_xt, Br.dn_lst, Br.dn_dK, Br.dn_dT, Br.dn_dX, Br.dn_dn, Br.isD_dn, Br.eqP_dnl, Br.eqP_dnr, tupleXP, opSem, addP, subP, mulP, fdivP, modP, powP, negP, eqOP, neOP, ltOP, leOP, gtOP, geOP, isNP, isNNP, isBP, isNBP, PV.isNon, lenP, sumP, absP, int1P, str1P, tuple1P, list1P, min2P, max2P, idxP, slcP, slcPart, dmodP, isTyOP, isTys, isTyP, tyName, ownV, Op.new, wipeE, Br.backE_nil, Br.backE_cons, Br.froO_f, Br.froO_n, Br.froO_0, Br.froO_o, seqOf, parE, ownL, ownD, keyP, recvOk, PV.isD, PV.isT, Br.eqP_ii, Br.eqP_ss, Br.eqP_bb, Br.eqP_nn, Br.eqP_tt, Br.eqP_ll, Br.eqPs_00, Br.eqPs_0c, Br.eqPs_c0, Br.eqPs_cc, Br.eqPs_ints, Br.eqP_xl, Br.eqP_xr, Br.eqP_ni, Br.eqP_ns, Br.eqP_nt, Br.eqP_nl, Br.eqP_nb, Br.eqP_in, Br.eqP_is, Br.eqP_it, Br.eqP_il, Br.eqP_sn, Br.eqP_si, Br.eqP_st, Br.eqP_sl, Br.eqP_sb, Br.eqP_tn, Br.eqP_ti, Br.eqP_ts, Br.eqP_tl, Br.eqP_tb, Br.eqP_ln, Br.eqP_li, Br.eqP_ls, Br.eqP_lt, Br.eqP_lb, Br.eqP_bn, Br.eqP_bs, Br.eqP_bt, Br.eqP_bl, intsOf, List.getElem?_cons_zero, List.getElem?_cons_succ, List.getElem?_nil, List.set_cons_zero, List.set_cons_succ, List.map_cons, List.map_nil, List.cons_append, List.nil_append, List.length_cons, List.length_nil, List.replicate_succ, List.replicate_zero, List.append_nil, Option.bind_some, Option.bind_none, Option.map_some, Option.map_none, if_true, if_false, ite_true, ite_false, decide_true, decide_false, Bool.and_true, Bool.true_and, Bool.not_true, Bool.not_false, reduceIte, Option.isSome_some, Br.kit_NoneType_int, Br.kit_NoneType_bool, Br.kit_NoneType_str, Br.kit_NoneType_tuple, Br.kit_NoneType_list, Br.kit_NoneType_dict, Br.kit_bool_int, Br.kit_bool_bool, Br.kit_bool_str, Br.kit_bool_tuple, Br.kit_bool_list, Br.kit_bool_dict, Br.kit_int_int, Br.kit_int_bool, Br.kit_int_str, Br.kit_int_tuple, Br.kit_int_list, Br.kit_int_dict, Br.kit_str_int, Br.kit_str_bool, Br.kit_str_str, Br.kit_str_tuple, Br.kit_str_list, Br.kit_str_dict, Br.kit_tuple_int, Br.kit_tuple_bool, Br.kit_tuple_str, Br.kit_tuple_tuple, Br.kit_tuple_list, Br.kit_tuple_dict, Br.kit_list_int, Br.kit_list_bool, Br.kit_list_str, Br.kit_list_tuple, Br.kit_list_list, Br.kit_list_dict, Br.kit_dict_int, Br.kit_dict_bool, Br.kit_dict_str, Br.kit_dict_tuple, Br.kit_dict_list, Br.kit_dict_dict, L2.ixN, Br.rng_ok, Br.mul_ok_r, Br.mul_ok_l, LIM, Br.PV.i_int, Br.log2_lt_9000, Br.atI_0, Br.atI_1, Br.atI_2, lcntP, lidxP, bitsP, revP, cntP, sortedDP, minDP, maxDP, sortX, Br.x_try, Br.tryK_nx, Br.tryK_rt, Br.tryK_bk, Br.tryK_ct, Br.suiteX_nx, Br.suiteX_bk, Br.suiteX_ct, Br.suiteX_rt, Br.setX_some, Br.setX_none, Br.goneX_some, Br.goneX_none, Br.x_lock, Br.kLock_d, Br.lockR_nx, Br.lockR_rt, Br.l_callN', Br.v_callN, Br.kN1, Br.kN2_eq, Br.newL_t, Br.newL_f, Br.l_callT', Br.v_callT, Br.kT1, Br.kT2, Br.kT3, Br.kT4_eq, Br.dropT_ok, Br.dropT_ex, Br.dropT_st, Br.sh_val, Br.sh_ref, Br.kXt, Br.v_xtup, Br.l_xtup, Br.lockV_s, Br.thin_0, Br.thin_c, Br.thinO_n, Br.thinO_s, Br.thinL_f, Br.thinL_l, Br.thinL_d, Br.thinL_t, Br.noD_n, Br.noD_b, Br.noD_i, Br.noD_s, Br.noD_e, Br.noD_t, Br.noD_x, Br.noD_l, Br.noD_d, Br.noDs_0, Br.noDs_c, Br.noDs_i, Br.v_dnewT, Br.v_dnewX, Br.l_dnewT', Br.l_dnewX', Br.opX_idxT, Br.opX_dgetT, Br.opX_innT, Br.opX_ninT, Br.opX_sortT, idxTP, dgetTP, innTP, ninTP, sortTP, Br.opX_strD, Br.opX_max2D, Br.opX_valsL, Br.opX_valsS, Br.opX_minV, Br.opX_minT, Br.opX_sset, Br.opX_ssetT, Br.opX_lset, Br.opX_join, Br.opX_split, Br.opX_strip2, Br.opX_intS, Br.opX_idxS, Br.opX_inS, Br.opX_addX, addXP, minVP, minTP, valsLP, valsSP, tcntP, tupleXP, Br.l_mcall', Br.v_mcall, Br.kMc, Br.l_make', Br.kMk, Br.madeT_ok, Br.madeT_st, Br.v_fld, Br.fldE_some, Br.l_fld, Br.v_fop, Br.fldO_fro, Br.fldO_own, Br.l_fop', Br.x_fset, Br.x_fnew, Br.x_fappV, Br.x_fappT, fsetS, fnewS, fappS, Br.froAt, insLs, insAt, Br.l_sel', Br.v_sel, Br.kSel_0, Br.kSel_1, Br.v_frz, Br.l_frz', Br.v_ofld, Br.l_ofld, Br.v_fix, Br.l_fix, Br.fixP_s, Br.ixOf_l, Br.ixOf_r, Br.ofldP_s, Br.l_mcallR', Br.v_mcallR, Br.kMr, Br.callR_k, Br.callR1_s, Br.callR2_ok, Br.pvsL_0, Br.pvsL_f, Br.pvsL_o, Br.bare_f, Br.bare_l, Br.bare_i, PV.bare, Br.x_fsetIx, fsetIxS, Br.x_fappE, Br.kFa0_s, Br.kFa_l, fappES, Br.dn_gt, Br.dn_obj, and_self, Br.opX_max3, Br.opX_min3, max3P, min3P, bd_law_draws_0ff0_2, h0, hb, hl, e, hrr]); all_goals rfl), ds ++ [N % b], left, some (.fro (.int (i : Nat))), some (.fro (.int N)), l7', by simp [hlen], app N, by simp⟩)
  by_cases h : 1000000000000000000 ≤ c
  · simp -implicitDefEqProofs [evx, h, hr]
    obtain ⟨ρ', h1, ds, left, l5, l6, l7, h2, h3, rfl⟩ := outer (c - 1000000000000000000)
    rw [h1]
    rw [rngP_len, Int.sub_zero] at h2
    exact ⟨ds, h2, h3, by simp -implicitDefEqProofs [evx]⟩
  · simp -implicitDefEqProofs [evx, h, hr]
    obtain ⟨ρ', h1, ds, left, l5, l6, l7, h2, h3, rfl⟩ := outer 0
    rw [h1]
    rw [rngP_len, Int.sub_zero] at h2
    exact ⟨ds, h2, h3, by simp -implicitDefEqProofs [evx]⟩
set_option maxHeartbeats 0
/-- p by q is the ratio of a by b, in lowest terms -/
structure RatOf (a b p q : Int) : Prop where
  q1 : 1 ≤ q
  g : Int.gcd p q = 1
  e : p * b = a * q
  pa : p.natAbs ≤ a.natAbs
  qb : q.natAbs ≤ b.natAbs
theorem RatOf.neg {a b p q : Int} (r : RatOf (0 - a) (0 - b) p q) : RatOf a b p q := by
  refine ⟨r.q1, r.g, ?_, by have := r.pa; omega, by have := r.qb; omega⟩
  have := r.e
  rw [Int.zero_sub, Int.zero_sub, Int.mul_neg, Int.neg_mul] at this
  omega
set_option maxHeartbeats 0
def ir_ratio_of_84ca : Fn := ⟨3, 2, [0, 1], [.ite (.e (.app .eq [.ref 1, .val (.cst (.int 0))])) [.raise "NoRatio"] [], .set 2 (.call 440 [.ref 0, .ref 1]), .ite (.e (.app .lt [.ref 1, .val (.cst (.int 0))])) [.set 2 (.app .sub [.val (.cst (.int 0)), .ref 2])] [], .ret (.tup [.app .fdiv [.ref 0, .ref 2], .app .fdiv [.ref 1, .ref 2]])]⟩
def ph_ratio_of_84ca : Nat → List LV → CR := fun j => match j with | 440 => g_greatest_part_8724 | _ => fun _ => .st
def g_ratio_of_84ca : List LV → CR := runFn ph_ratio_of_84ca 1000000 ir_ratio_of_84ca
-- use: U_rat
set_option maxHeartbeats 0
-- use: BrD3
def gd (l : List Int) (i : Nat) : Int := l.getD i 0
structure KS (ps : List (Int × Int)) (L : List Int) : Prop where
  z : gd L 0 = 0
  mono : ∀ i, i + 1 < L.length → gd L i ≤ gd L (i+1)
  up : ∀ q ∈ ps, ∀ i, q.2.toNat ≤ i → i < L.length → gd L (i - q.2.toNat) + q.1 ≤ gd L i
structure KE (ps : List (Int × Int)) (L : List Int) : Prop extends KS ps L where
  at' : ∀ i, i + 1 < L.length → gd L (i+1) = gd L i ∨ ∃ q ∈ ps, q.2.toNat ≤ i+1 ∧ gd L (i+1) = gd L (i+1-q.2.toNat) + q.1
/-- the least one is below each -/
theorem KE.le {ps : List (Int × Int)} {L D : List Int} (hw : ∀ q ∈ ps, 1 ≤ q.2) (h : KE ps L) (k : KS ps D) (hl : L.length = D.length) : ∀ i, i < L.length → gd L i ≤ gd D i := by
  intro i
  induction i using Nat.strongRecOn with
  | _ i ih =>
    intro hi
    cases i with
    | zero => rw [h.z, k.z]; exact Int.le_refl _
    | succ i =>
      rcases h.at' i hi with e | ⟨q, hq, q1, e⟩
      · rw [e]
        have h1 := ih i (by omega) (by omega)
        have h2 := k.mono i (by omega)
        omega
      · rw [e]
        have := hw q hq
        have h1 := ih (i+1-q.2.toNat) (by omega) (by omega)
        have h2 := k.up q hq (i+1) q1 (by omega)
        omega
/-- one more thing -/
theorem KS.step {ps : List (Int × Int)} {s w : Int} {f g : List Int} (hw : 1 ≤ w) (hs : 0 ≤ s) (h : KS ps f) (hl : g.length = f.length)
    (e : ∀ j, j < f.length → gd g j = if w.toNat ≤ j then (if gd g (j - w.toNat) + s > gd f j then gd g (j - w.toNat) + s else gd f j) else gd f j) : KS ((s, w) :: ps) g where
  z := by
    by_cases hn : 0 < f.length
    · have := e 0 hn
      rw [if_neg (by omega)] at this
      rw [this, h.z]
    · have h0 : g = [] := List.eq_nil_of_length_eq_zero (by omega)
      rw [h0]; rfl
  mono := by
    intro i
    induction i using Nat.strongRecOn with
    | _ i ih =>
      intro hi
      have hm := h.mono i (by omega)
      rw [e i (by omega), e (i+1) (by omega)]
      by_cases h1 : w.toNat ≤ i
      · have h2 : w.toNat ≤ i + 1 := by omega
        rw [if_pos h1, if_pos h2]
        have := ih (i - w.toNat) (by omega) (by omega)
        rw [show i - w.toNat + 1 = i + 1 - w.toNat by omega] at this
        split <;> split <;> omega
      · rw [if_neg h1]
        split
        · split <;> omega
        · exact hm
  up := by
    intro q hq i hqi hi
    have key : ∀ i, i < g.length → w.toNat ≤ i → gd g (i - w.toNat) + s ≤ gd g i := fun i hi h1 => by
      rw [e i (by omega), if_pos h1]
      split <;> omega
    rcases List.mem_cons.mp hq with rfl | hq
    · exact key i hi hqi
    · revert hqi hi
      induction i using Nat.strongRecOn with
      | _ i ih =>
        intro hqi hi
        have ge : ∀ j, j < g.length → gd f j ≤ gd g j := fun j hj => by
          rw [e j (by omega)]
          split
          · split <;> omega
          · exact Int.le_refl _
        have h1 := h.up q hq i hqi (by omega)
        have h2 := ge i hi
        rw [e (i - q.2.toNat) (by omega)]
        split
        · split
          · rename_i c1 c2
            have h3 := ih (i - w.toNat) (by omega) (by omega) (by omega)
            have h4 := key i hi (by omega)
            rw [show i - w.toNat - q.2.toNat = i - q.2.toNat - w.toNat by omega] at h3
            omega
          · omega
        · omega
theorem gd_app {l : List Int} {x : Int} {i : Nat} : gd (l ++ [x]) i = if i < l.length then gd l i else if i = l.length then x else 0 := by
  unfold gd
  rw [List.getD_eq_getElem?_getD, List.getD_eq_getElem?_getD]
  by_cases h : i < l.length
  · rw [if_pos h, List.getElem?_append_left h]
  · rw [if_neg h]
    by_cases h2 : i = l.length
    · subst h2; simp
    · rw [if_neg h2, List.getElem?_eq_none (by simp; omega)]; rfl
def sumsI (L : List Int) (t : Int) (ps : List (Int × Int)) : List Int := ps.filterMap fun q => if q.2 ≤ t then some (gd L (t - q.2).toNat + q.1) else none
def nxtI (L : List Int) (t : Int) (ps : List (Int × Int)) : Int := (sumsI L t ps).foldl (fun a b => if b > a then b else a) (gd L (t - 1).toNat)
theorem KE.nil (ps : List (Int × Int)) (hw : ∀ q ∈ ps, 1 ≤ q.2) : KE ps [0] where
  z := rfl
  mono := fun i hi => absurd hi (by simp)
  up := fun q hq i h1 h2 => by
    have := hw q hq
    have : i < 1 := h2
    omega
  at' := fun i hi => absurd hi (by simp)
theorem KE.next {ps : List (Int × Int)} {L : List Int} {i : Nat} (hw : ∀ q ∈ ps, 1 ≤ q.2) (h : KE ps L) (hl : L.length = i + 1) : KE ps (L ++ [nxtI L ((i : Int) + 1) ps]) := by
  obtain ⟨m1, m2⟩ := fold_max (sumsI L ((i : Int) + 1) ps) (gd L ((i : Int) + 1 - 1).toNat)
  have e0 : ((i : Int) + 1 - 1).toNat = i := by omega
  have hv : (sumsI L ((i : Int) + 1) ps).foldl (fun a b => if b > a then b else a) (gd L ((i : Int) + 1 - 1).toNat) = nxtI L ((i : Int) + 1) ps := rfl
  rw [hv, e0] at m1 m2
  generalize nxtI L ((i : Int) + 1) ps = v at m1 m2
  have old : ∀ j, j ≤ i → gd (L ++ [v]) j = gd L j := fun j hj => by rw [gd_app, if_pos (by omega)]
  have new : gd (L ++ [v]) (i + 1) = v := by rw [gd_app, if_neg (by omega), if_pos (by omega)]
  have hlen : (L ++ [v]).length = i + 2 := by simp [hl]
  refine { z := by rw [old 0 (by omega)]; exact h.z, mono := fun j hj => ?_, up := fun q hq j h1 h2 => ?_, at' := fun j hj => ?_ }
  · rw [hlen] at hj
    by_cases hji : j = i
    · subst hji
      rw [new, old j (by omega)]
      exact m2 _ (by simp)
    · rw [old j (by omega), old (j+1) (by omega)]
      exact h.mono j (by omega)
  · rw [hlen] at h2
    have hq1 := hw q hq
    by_cases hji : j = i + 1
    · subst hji
      rw [new, old (i + 1 - q.2.toNat) (by omega)]
      refine m2 _ (List.mem_cons_of_mem _ (List.mem_filterMap.mpr ⟨q, hq, ?_⟩))
      rw [if_pos (by omega)]
      congr 2
      congr 1
      omega
    · rw [old j (by omega), old (j - q.2.toNat) (by omega)]
      exact h.up q hq j h1 (by omega)
  · rw [hlen] at hj
    by_cases hji : j = i
    · subst hji
      rw [new, old j (by omega)]
      rcases List.mem_cons.mp m1 with e | e
      · exact .inl e
      · obtain ⟨q, hq, e⟩ := List.mem_filterMap.mp e
        have hq1 := hw q hq
        split at e
        · rename_i c
          cases e
          refine .inr ⟨q, hq, by omega, ?_⟩
          rw [old (j + 1 - q.2.toNat) (by omega)]
          congr 2
          omega
        · cases e
    · rw [old j (by omega), old (j+1) (by omega)]
      rcases h.at' j (by omega) with e | ⟨q, hq, h1, e⟩
      · exact .inl e
      · have hq1 := hw q hq
        exact .inr ⟨q, hq, h1, by rw [old (j + 1 - q.2.toNat) (by omega)]; exact e⟩
theorem atI_gd {L : List Int} {t : Int} (h0 : 0 ≤ t) (h1 : t < L.length) : L2.atI (L.map PV.int) t = some (.int (gd L t.toNat)) := by
  obtain ⟨j, rfl⟩ := Int.eq_ofNat_of_zero_le h0
  refine atI_n _ j _ ?_
  have hj : j < L.length := by omega
  unfold gd
  rw [List.getElem?_map, List.getElem?_eq_getElem hj, List.getD_eq_getElem?_getD, Int.toNat_natCast, List.getElem?_eq_getElem hj]
  rfl
set_option maxHeartbeats 0
/-- a pool of two numbers -/
abbrev pl (a b : Int) : LV := .own (.lst [.int a, .int b])
/-- a heap as data: the need, the kinds -/
abbrev hp (n : Int) (ks : List (Int × Int)) : PV := .tup [.int n, .xt (ks.map fun q => .tup [.int q.1, .int q.2])]
set_option maxHeartbeats 0
theorem rngP_mem {a b : Int} {x : PV} (h : x ∈ rngP a b) : ∃ i : Int, x = .int i ∧ a ≤ i ∧ i < b := by
  obtain ⟨i, hi⟩ := List.mem_iff_getElem?.mp h
  obtain ⟨rfl, h2⟩ := rngP_at hi
  exact ⟨_, rfl, by omega, by omega⟩
set_option maxHeartbeats 0
/-! comprehensions, by what they are over -/
theorem comp_fm {α β : Type} {emb : α → PV} {l : List α} {f : PV → Br.Env → ER (Option PV)} {ρ : Br.Env} (emb' : β → PV) (h : α → Option β) (H : ∀ k ∈ l, f (emb k) ρ = .ok ((h k).map emb') ρ) : compL f (l.map emb) ρ = .ok ((l.filterMap h).map emb') ρ := by
  induction l with
  | nil => rfl
  | cons x l ih =>
    have h1 := H x (by simp)
    have h2 := ih fun k hk => H k (by simp [hk])
    rw [List.map_cons]
    unfold compL
    rw [h1, List.filterMap_cons]
    cases h x with
    | none => exact h2
    | some y =>
      dsimp only [Option.map_some]
      rw [h2]
      rfl
theorem comp_mp {α β : Type} {emb : α → PV} {l : List α} {f : PV → Br.Env → ER (Option PV)} {ρ : Br.Env} (emb' : β → PV) (h : α → β) (H : ∀ k ∈ l, f (emb k) ρ = .ok (some (emb' (h k))) ρ) : compL f (l.map emb) ρ = .ok ((l.map h).map emb') ρ := by
  have := comp_fm (f := f) emb' (fun x => some (h x)) H
  rw [this, List.filterMap_eq_map']
set_option maxHeartbeats 0
-- use: BrD2 U_pool
theorem eqP_self {p : PV} (h : p.isD 60 = true) : eqP p p = true := PySem.SeqAt.eqv_refl _ (canLay_d 60 p h)
set_option maxHeartbeats 0
-- use: BrD4
/-! dicts from ints to ints -/
def lookL (k : Int) : List (Int × Int) → Option Int
  | [] => none
  | q :: l => if k = q.1 then some q.2 else lookL k l
set_option maxHeartbeats 0
-- use: U_dict U_pool
/-! counts: how many of each size -/
def tally (c : List (Int × Int)) (k : Int) : Int := (lookL k c).getD 0
def keysL (c : List (Int × Int)) : List Int := c.map (·.1)
theorem tally_cons (q : Int × Int) (c : List (Int × Int)) (k : Int) : tally (q :: c) k = if k = q.1 then q.2 else tally c k := by
  unfold tally
  rw [lookL]
  split <;> rfl
theorem tally_none {c : List (Int × Int)} {k : Int} (h : k ∉ keysL c) : tally c k = 0 := by
  induction c with
  | nil => rfl
  | cons q c ih =>
    unfold keysL at h ih
    rw [List.map_cons, List.mem_cons] at h
    rw [tally_cons, if_neg (fun z => h (.inl z)), ih fun z => h (.inr z)]
theorem tally_mem {c : List (Int × Int)} (nd : (keysL c).Nodup) {q : Int × Int} (h : q ∈ c) : tally c q.1 = q.2 := by
  induction c with
  | nil => cases h
  | cons p c ih =>
    unfold keysL at nd ih
    rw [List.map_cons, List.nodup_cons] at nd
    rw [tally_cons]
    rcases List.mem_cons.mp h with rfl | h
    · rw [if_pos rfl]
    · rw [if_neg, ih nd.2 h]
      intro z
      exact nd.1 (by rw [← z]; exact List.mem_map_of_mem h)
/-- a heap's kinds: sorted, none of none -/
def Kinds (ks : List (Int × Int)) : Prop := (keysL ks).Pairwise (· < ·) ∧ ∀ q ∈ ks, 0 < q.2
theorem Kinds.nd {ks : List (Int × Int)} (h : Kinds ks) : (keysL ks).Nodup := h.1.imp fun z => Int.ne_of_lt z
/-- a filling: lots and their times -/
def flE (q : List Int × Int) : PV := .tup [.tup (q.1.map .int), .int q.2]
def FlP (fl : List (List Int × Int)) (p : PV) : Prop := p = .tup (fl.map flE) ∨ p = .xt (fl.map flE) ∨ p = .lst (fl.map flE)
theorem noDs_fl (fl : List (List Int × Int)) : PV.noDs (fl.map flE) = true := by
  rw [noDs_all, List.all_map]
  refine List.all_eq_true.mpr fun x _ => ?_
  show PV.noD (.tup [.tup (x.1.map .int), .int x.2]) = true
  rw [noD_t, noDs_c, noDs_c, noDs_0, noD_t, noDs_i]
  rfl
theorem FlP.noD {fl : List (List Int × Int)} {p : PV} (h : FlP fl p) : PV.noD p = true := by
  rcases h with rfl | rfl | rfl
  · rw [noD_t, noDs_fl]
  · rw [noD_x, noDs_fl]
  · rw [noD_l, noDs_fl]
set_option maxHeartbeats 0
-- use: U_cts U_pool U_comp U_eq U_dict U_list BrF2
/-! heaps -/
theorem Kinds.nn {ks : List (Int × Int)} (hk : Kinds ks) (k : Int) : 0 ≤ tally ks k := by
  by_cases z : k ∈ keysL ks
  · unfold keysL at z
    obtain ⟨q, hq, rfl⟩ := List.mem_map.mp z
    rw [tally_mem hk.nd hq]
    have := hk.2 q hq
    omega
  · rw [tally_none z]; omega
theorem Kinds.key {ks : List (Int × Int)} (hk : Kinds ks) {k : Int} (h : k ∈ keysL ks) : 1 ≤ tally ks k := by
  unfold keysL at h
  obtain ⟨q, hq, rfl⟩ := List.mem_map.mp h
  rw [tally_mem hk.nd hq]
  have := hk.2 q hq
  omega
/-- a heap's kinds within bounds -/
structure HeapOk (ks : List (Int × Int)) : Prop where
  k : Kinds ks
  b : ∀ q ∈ ks, 1 ≤ q.1 ∧ q.1 ≤ 1000000000000 ∧ 1 ≤ q.2 ∧ q.2 ≤ 1000000000000
theorem HeapOk.s {ks : List (Int × Int)} (h : HeapOk ks) : ∀ q ∈ ks, 1 ≤ q.1 ∧ q.1 ≤ 1000000000000 := fun q hq => ⟨(h.b q hq).1, (h.b q hq).2.1⟩
theorem HeapOk.abs {ks : List (Int × Int)} (h : HeapOk ks) : ∀ q ∈ ks, q.1.natAbs < 18446744073709551616 := fun q hq => by have := h.s q hq; omega
set_option maxHeartbeats 0
-- use: U_eq BrV1 BrQ4 HandS.Text KE.KIntText U_pool U_cts U_heap
/-! texts of numbers, lots, heaps and fillings -/
theorem strsOf_map : ∀ ys : List PySem.Str, strsOf (ys.map PV.str) = some ys
  | [] => rfl
  | y :: ys => by
    show (strsOf (ys.map PV.str)).map (y :: ·) = _
    rw [strsOf_map ys]
    rfl
set_option maxHeartbeats 0
theorem cutP_ints (ns : List Int) (a b : Option Int) : ∃ xs : List Int, cutP (ns.map PV.int) a b = xs.map PV.int ∧ xs.length ≤ ns.length := by
  unfold cutP
  rw [← List.map_drop, ← List.map_take]
  refine ⟨_, rfl, ?_⟩
  rw [List.length_take, List.length_drop]
  omega
set_option maxHeartbeats 0
def el_law_7975_1 : Br.Ex := .app .idxS [.val (.call 326 []), .val (.app .mod [.ref 8, .val (.cst (.int 94))])]
def bd_law_7975_1 : List Br.St := [.ex (.call 599 [.val (.app .idx [.ref 2, .val (.cst (.int 1))]), .val (.cst (.int 0))])]
def bd_law_7975_2 : List Br.St := [.set 5 (.var 6)]
def kn_law_7975 : List Str := ["NoRatio", "NoHeap", "NoLot", "Unlike", "TooMany", "NoSize", "TooFew", "NoText", "NoRow", "NoBack"]
@[simp] theorem kx_law_7975_1_NoRatio (f : Br.Env → SO) (ρ : Br.Env) : tryK "BrimError" (some 6) kn_law_7975 f (.ex "NoRatio" ρ) = suiteX (some 6) (f (setX (some 6) "NoRatio" ρ)) := tryK_ex _ _ _ _ _ _ (by decide) (by decide)
@[simp] theorem kx_law_7975_1_NoHeap (f : Br.Env → SO) (ρ : Br.Env) : tryK "BrimError" (some 6) kn_law_7975 f (.ex "NoHeap" ρ) = suiteX (some 6) (f (setX (some 6) "NoHeap" ρ)) := tryK_ex _ _ _ _ _ _ (by decide) (by decide)
@[simp] theorem kx_law_7975_1_NoLot (f : Br.Env → SO) (ρ : Br.Env) : tryK "BrimError" (some 6) kn_law_7975 f (.ex "NoLot" ρ) = suiteX (some 6) (f (setX (some 6) "NoLot" ρ)) := tryK_ex _ _ _ _ _ _ (by decide) (by decide)
@[simp] theorem kx_law_7975_1_Unlike (f : Br.Env → SO) (ρ : Br.Env) : tryK "BrimError" (some 6) kn_law_7975 f (.ex "Unlike" ρ) = suiteX (some 6) (f (setX (some 6) "Unlike" ρ)) := tryK_ex _ _ _ _ _ _ (by decide) (by decide)
@[simp] theorem kx_law_7975_1_TooMany (f : Br.Env → SO) (ρ : Br.Env) : tryK "BrimError" (some 6) kn_law_7975 f (.ex "TooMany" ρ) = suiteX (some 6) (f (setX (some 6) "TooMany" ρ)) := tryK_ex _ _ _ _ _ _ (by decide) (by decide)
@[simp] theorem kx_law_7975_1_NoSize (f : Br.Env → SO) (ρ : Br.Env) : tryK "BrimError" (some 6) kn_law_7975 f (.ex "NoSize" ρ) = suiteX (some 6) (f (setX (some 6) "NoSize" ρ)) := tryK_ex _ _ _ _ _ _ (by decide) (by decide)
@[simp] theorem kx_law_7975_1_TooFew (f : Br.Env → SO) (ρ : Br.Env) : tryK "BrimError" (some 6) kn_law_7975 f (.ex "TooFew" ρ) = suiteX (some 6) (f (setX (some 6) "TooFew" ρ)) := tryK_ex _ _ _ _ _ _ (by decide) (by decide)
@[simp] theorem kx_law_7975_1_NoText (f : Br.Env → SO) (ρ : Br.Env) : tryK "BrimError" (some 6) kn_law_7975 f (.ex "NoText" ρ) = suiteX (some 6) (f (setX (some 6) "NoText" ρ)) := tryK_ex _ _ _ _ _ _ (by decide) (by decide)
@[simp] theorem kx_law_7975_1_NoRow (f : Br.Env → SO) (ρ : Br.Env) : tryK "BrimError" (some 6) kn_law_7975 f (.ex "NoRow" ρ) = suiteX (some 6) (f (setX (some 6) "NoRow" ρ)) := tryK_ex _ _ _ _ _ _ (by decide) (by decide)
@[simp] theorem kx_law_7975_1_NoBack (f : Br.Env → SO) (ρ : Br.Env) : tryK "BrimError" (some 6) kn_law_7975 f (.ex "NoBack" ρ) = suiteX (some 6) (f (setX (some 6) "NoBack" ρ)) := tryK_ex _ _ _ _ _ _ (by decide) (by decide)
def el_law_7975_2 : Br.Ex := .app .eq [.ref 9, .val (.cst (.int 3))]
def cs_law_7975_BrimError : List Str := ["BrimError"]
@[simp] theorem cs_law_7975_BrimError_NoRatio : isExP kn_law_7975 cs_law_7975_BrimError [.exc "NoRatio"] = some (.bl true) := isExP_exc (by decide) (by decide)
@[simp] theorem cs_law_7975_BrimError_NoHeap : isExP kn_law_7975 cs_law_7975_BrimError [.exc "NoHeap"] = some (.bl true) := isExP_exc (by decide) (by decide)
@[simp] theorem cs_law_7975_BrimError_NoLot : isExP kn_law_7975 cs_law_7975_BrimError [.exc "NoLot"] = some (.bl true) := isExP_exc (by decide) (by decide)
@[simp] theorem cs_law_7975_BrimError_Unlike : isExP kn_law_7975 cs_law_7975_BrimError [.exc "Unlike"] = some (.bl true) := isExP_exc (by decide) (by decide)
@[simp] theorem cs_law_7975_BrimError_TooMany : isExP kn_law_7975 cs_law_7975_BrimError [.exc "TooMany"] = some (.bl true) := isExP_exc (by decide) (by decide)
@[simp] theorem cs_law_7975_BrimError_NoSize : isExP kn_law_7975 cs_law_7975_BrimError [.exc "NoSize"] = some (.bl true) := isExP_exc (by decide) (by decide)
@[simp] theorem cs_law_7975_BrimError_TooFew : isExP kn_law_7975 cs_law_7975_BrimError [.exc "TooFew"] = some (.bl true) := isExP_exc (by decide) (by decide)
@[simp] theorem cs_law_7975_BrimError_NoText : isExP kn_law_7975 cs_law_7975_BrimError [.exc "NoText"] = some (.bl true) := isExP_exc (by decide) (by decide)
@[simp] theorem cs_law_7975_BrimError_NoRow : isExP kn_law_7975 cs_law_7975_BrimError [.exc "NoRow"] = some (.bl true) := isExP_exc (by decide) (by decide)
@[simp] theorem cs_law_7975_BrimError_NoBack : isExP kn_law_7975 cs_law_7975_BrimError [.exc "NoBack"] = some (.bl true) := isExP_exc (by decide) (by decide)
@[simp] theorem cs_law_7975_BrimError_non : isExP kn_law_7975 cs_law_7975_BrimError [.non] = some (.bl false) := isExP_non (by decide)
def cs_law_7975_ValueError : List Str := ["ValueError"]
@[simp] theorem cs_law_7975_ValueError_NoRatio : isExP kn_law_7975 cs_law_7975_ValueError [.exc "NoRatio"] = some (.bl true) := isExP_exc (by decide) (by decide)
@[simp] theorem cs_law_7975_ValueError_NoHeap : isExP kn_law_7975 cs_law_7975_ValueError [.exc "NoHeap"] = some (.bl true) := isExP_exc (by decide) (by decide)
@[simp] theorem cs_law_7975_ValueError_NoLot : isExP kn_law_7975 cs_law_7975_ValueError [.exc "NoLot"] = some (.bl true) := isExP_exc (by decide) (by decide)
@[simp] theorem cs_law_7975_ValueError_Unlike : isExP kn_law_7975 cs_law_7975_ValueError [.exc "Unlike"] = some (.bl true) := isExP_exc (by decide) (by decide)
@[simp] theorem cs_law_7975_ValueError_TooMany : isExP kn_law_7975 cs_law_7975_ValueError [.exc "TooMany"] = some (.bl true) := isExP_exc (by decide) (by decide)
@[simp] theorem cs_law_7975_ValueError_NoSize : isExP kn_law_7975 cs_law_7975_ValueError [.exc "NoSize"] = some (.bl true) := isExP_exc (by decide) (by decide)
@[simp] theorem cs_law_7975_ValueError_TooFew : isExP kn_law_7975 cs_law_7975_ValueError [.exc "TooFew"] = some (.bl true) := isExP_exc (by decide) (by decide)
@[simp] theorem cs_law_7975_ValueError_NoText : isExP kn_law_7975 cs_law_7975_ValueError [.exc "NoText"] = some (.bl true) := isExP_exc (by decide) (by decide)
@[simp] theorem cs_law_7975_ValueError_NoRow : isExP kn_law_7975 cs_law_7975_ValueError [.exc "NoRow"] = some (.bl true) := isExP_exc (by decide) (by decide)
@[simp] theorem cs_law_7975_ValueError_NoBack : isExP kn_law_7975 cs_law_7975_ValueError [.exc "NoBack"] = some (.bl true) := isExP_exc (by decide) (by decide)
@[simp] theorem cs_law_7975_ValueError_non : isExP kn_law_7975 cs_law_7975_ValueError [.non] = some (.bl false) := isExP_non (by decide)
def el_law_7975_3 : Br.Ex := .app .eq [.ref 9, .ref 7]
def bd_law_7975_3 : List Br.St := [.ite (.or (.not (.e (.app (.isEx kn_law_7975 cs_law_7975_BrimError) [.val (.app .idx [.ref 4, .ref 7])]))) (.not (.e (.app (.isEx kn_law_7975 cs_law_7975_ValueError) [.val (.app .idx [.ref 4, .ref 7])])))) [.ret (.cst (.bl false))] [], .ite (.e (.app .ne [.val (.call 207 [.val (.app .idx [.ref 4, .ref 7])]), .val (.comp (.rng1 (.cst (.int 10))) (.one 9) [9] [] el_law_7975_3)])) [.ret (.cst (.bl false))] []]
def bd_law_7975_4 : List Br.St := [.set 2 (.call 77 [.ref 1, .val (.cst (.int 12)), .val (.app .pow [.val (.cst (.int 10)), .val (.cst (.int 6))])]), .set 3 (.mth .join (.val (.cst (.str ""))) [.val (.comp (.seq (.sl2 (.ref 2) (.cst (.int 1)) (.app .add [.val (.cst (.int 2)), .val (.app .mod [.val (.app .idx [.ref 2, .val (.cst (.int 0))]), .val (.cst (.int 10))])]))) (.one 8) [8] [] el_law_7975_1)]), .ite (.e (.app .eq [.val (.app .mod [.val (.app .fdiv [.val (.app .idx [.ref 2, .val (.cst (.int 0))]), .val (.cst (.int 10))]), .val (.cst (.int 4))]), .val (.cst (.int 1))])) [.set 3 (.cst (.str ""))] [], .set 4 (.lst [.app (.mkX "NoBack") [.ref 3], .app (.mkX "NoHeap") [.ref 3], .app (.mkX "NoLot") [.ref 3], .app (.mkX "NoRatio") [.ref 3], .app (.mkX "NoRow") [.ref 3], .app (.mkX "NoSize") [.ref 3], .app (.mkX "NoText") [.ref 3]]), .set 4 (.app .add [.ref 4, .val (.lst [.app (.mkX "TooFew") [.ref 3], .app (.mkX "TooMany") [.ref 3], .app (.mkX "Unlike") [.ref 3]])]), .set 5 (.cst .non), .tryx bd_law_7975_1 "BrimError" (some 6) kn_law_7975 bd_law_7975_2, .ite (.e (.app .ne [.val (.call 207 [.ref 5]), .val (.comp (.rng1 (.cst (.int 10))) (.one 9) [9] [] el_law_7975_2)])) [.ret (.cst (.bl false))] [], .for (.rng1 (.cst (.int 10))) (.one 7) bd_law_7975_3]
def ir_law_7975 : Fn := ⟨10, 1, [0], [.for (.seq (.app .add [.val (.app (.slc false true) [.ref 0, .val (.cst (.int 20))]), .val (.lst [.app .len [.ref 0]])])) (.one 1) bd_law_7975_4, .ret (.cst (.bl true))]⟩
def ph_law_7975 : Nat → List LV → CR := fun j => match j with | 77 => g_law_draws_0ff0 | 207 => g_law_marks_5739 | 326 => g_law_signs_b991 | 599 => g_ratio_of_84ca | _ => fun _ => .st
def g_law_7975 : List LV → CR := runFn ph_law_7975 1000000 ir_law_7975
-- use: U_knap U_pool U_list U_comp U_txt U_eq U_idx
theorem ones_str (z : PySem.Str) (hz : z.cps.toList.length = 94) (hz2 : z.length ≤ 1000000) (d : Int) : ∃ t : PySem.Str, t.length = 1 ∧ idxSP [.str z, .int (d % 94)] = some (.str t) := by
  have h0 := Int.emod_nonneg d (show (94 : Int) ≠ 0 by decide)
  have h1 := Int.emod_lt_of_pos d (show (0 : Int) < 94 by decide)
  obtain ⟨i, hi⟩ := Int.eq_ofNat_of_zero_le h0
  have hi2 : i < z.cps.toList.length := by omega
  have e : L2.atI z.cps.toList (i : Int) = some z.cps.toList[i] := atI_n _ i _ (List.getElem?_eq_getElem hi2)
  refine ⟨⟨#[z.cps.toList[i]]⟩, rfl, ?_⟩
  rw [hi]
  show (if z.length ≤ LIM then (L2.atI z.cps.toList (i : Int)).map fun c => PV.str ⟨#[c]⟩ else none) = _
  rw [if_pos (by unfold LIM; exact hz2), e]
  rfl
theorem neOP_same {p : PV} (h : p.isD 60 = true) : neOP [p, p] = some (.bl false) := by
  have e : ∀ q : PV, q.isD 60 = true → neOP [q, q] = some (.bl (!eqP q q)) := fun q hq => by
    cases q with
    | str x => simp [neOP, eqP_ss]
    | _ => simp [neOP, hq]
  rw [e p h, eqP_self h]
  rfl
def bls10 (j : Nat) : List PV := (List.range 10).map fun (i : Nat) => .bl (decide (i = j))
theorem rng10 (j : Nat) : (rngP 0 10).map (fun x => PV.bl (decide (x.i = (j : Int)))) = bls10 j := by
  have : ∀ i : Nat, (PV.int (0 + (i : Int))).i = (i : Int) := fun i => by show 0 + (i : Int) = i; omega
  unfold rngP
  rw [List.map_map]
  exact List.map_congr_left fun i _ => by
    show PV.bl (decide ((PV.int (0 + (i : Int))).i = (j : Int))) = _
    rw [this]
    congr 1
    rw [decide_eq_decide]
    omega
theorem ex_7975 (d : Int) : g_ratio_of_84ca [.fro (.int d), .fro (.int 0)] = .ex "NoRatio" [.fro (.int d), .fro (.int 0)] := by
  (unfold g_ratio_of_84ca ir_ratio_of_84ca; rw [runFn_eq _ _ _ _ ⟨rfl, by decide, rfl⟩])
  simp -implicitDefEqProofs [evx]
theorem rnd_7975 {c : Int} {ns ds : List Int} {k : Nat} (hk : k < 10) (l_text l_caught l_e l_k : Option LV) : ∃ ρ', bindS (exSs ph_law_7975 1000000 bd_law_7975_3) (.one 7) (.int (k : Int)) [some (.fro (.lst ((ns).map .int))), some (.fro (.int (c))), some (.own (.lst (ds.map .int))), l_text, some (.own (.lst (mk10.map .exc))), l_caught, l_e, l_k, none, none] = .nx ρ' ∧
    ∃ m_text m_caught m_e m_k : Option LV, ρ' = [some (.fro (.lst ((ns).map .int))), some (.fro (.int (c))), some (.own (.lst (ds.map .int))), m_text, some (.own (.lst (mk10.map .exc))), m_caught, m_e, m_k, none, none] := by
  have g : L2.atI (mk10.map PV.exc) (k : Int) = some (.exc (mk10.getD k "")) := atI_n _ k _ (by
    have : k < mk10.length := hk
    rw [List.getElem?_map, List.getElem?_eq_getElem this, List.getD_eq_getElem?_getD, List.getElem?_eq_getElem this]
    rfl)
  have e1 : g_law_marks_5739 [.fro (.exc (mk10.getD k ""))] = .ok (.own (.lst (bls10 k))) [.fro (.exc (mk10.getD k ""))] := marks_5739 k hk
  have e2 := neOP_same (p := .lst (bls10 k)) rfl
  have i1 : isExP kn_law_7975 cs_law_7975_BrimError [.exc (mk10.getD k "")] = some (.bl true) := by
    rcases (by omega : k = 0 ∨ k = 1 ∨ k = 2 ∨ k = 3 ∨ k = 4 ∨ k = 5 ∨ k = 6 ∨ k = 7 ∨ k = 8 ∨ k = 9) with rfl | rfl | rfl | rfl | rfl | rfl | rfl | rfl | rfl | rfl <;> rfl
  have i2 : isExP kn_law_7975 cs_law_7975_ValueError [.exc (mk10.getD k "")] = some (.bl true) := by
    rcases (by omega : k = 0 ∨ k = 1 ∨ k = 2 ∨ k = 3 ∨ k = 4 ∨ k = 5 ∨ k = 6 ∨ k = 7 ∨ k = 8 ∨ k = 9) with rfl | rfl | rfl | rfl | rfl | rfl | rfl | rfl | rfl | rfl <;> rfl
  have r10 : rngOk 10 := rng_ok (by omega) (by omega)
  have l10 : (rngP 0 10).length ≤ 1000000 := by rw [rngP_len]; omega
  have cm : ∀ ρ : Br.Env, (∀ x ∈ rngP 0 10, cF ph_law_7975 (.one 9) [9] [] el_law_7975_3 x ρ = .ok (some (.bl (decide (x.i = (k : Int))))) ρ) → compL (cF ph_law_7975 (.one 9) [9] [] el_law_7975_3) (rngP 0 10) ρ = .ok (bls10 k) ρ := fun ρ h => by rw [← rng10]; exact compL_map h
  refine ⟨[some (.fro (.lst ((ns).map .int))), some (.fro (.int (c))), some (.own (.lst (ds.map .int))), l_text, some (.own (.lst (mk10.map .exc))), l_caught, l_e, some (.fro (.int ((k : Int)))), none, none], ?_, l_text, l_caught, l_e, some (.fro (.int (k : Int))), rfl⟩
  generalize mk10.getD k "" = X at *
  generalize mk10.map PV.exc = M at *
  simp -implicitDefEqProofs [evx, -L2.atI, -Br.isExP, bd_law_7975_3, ph_law_7975, g, i1, i2, e1, r10, l10]
  rw [cm _ fun x hx => by
    obtain ⟨i, rfl, _, _⟩ := rngP_mem hx
    simp -implicitDefEqProofs [evx, el_law_7975_3]]
  generalize bls10 k = L at *
  simp -implicitDefEqProofs [evx, -Br.neOP, ph_law_7975, e2]
theorem law_7975_pure (ns : List Int) (hn : ns.length ≤ 63) : ∃ ls', g_law_7975 [.fro (.lst (ns.map .int))] = .ok (.fro (.bl true)) ls' := by
  obtain ⟨z, hz, hz2, es⟩ := signs_b991
  have stp : ∀ (i : Nat) (x : PV) (ρ : Br.Env), ((ns.take 20).map PV.int ++ [.int ns.length])[i]? = some x → (∃ l_cell l_draws l_text l_made l_caught l_e l_k : Option LV, ρ = [some (.fro (.lst ((ns).map .int))), l_cell, l_draws, l_text, l_made, l_caught, l_e, l_k, none, none]) →
      ∃ ρ', (bindS (exSs ph_law_7975 1000000 bd_law_7975_4) (.one 1) x ρ = .nx ρ' ∨ bindS (exSs ph_law_7975 1000000 bd_law_7975_4) (.one 1) x ρ = .ct ρ') ∧ ∃ l_cell l_draws l_text l_made l_caught l_e l_k : Option LV, ρ' = [some (.fro (.lst ((ns).map .int))), l_cell, l_draws, l_text, l_made, l_caught, l_e, l_k, none, none] := by
    rintro i x ρ hx ⟨l_cell, l_draws, l_text, l_made, l_caught, l_e, l_k, rfl⟩
    obtain ⟨c, rfl⟩ : ∃ c, x = .int c := by
      rcases List.mem_append.mp (List.mem_of_getElem? hx) with h | h
      · obtain ⟨c, _, rfl⟩ := List.mem_map.mp h
        exact ⟨c, rfl⟩
      · simp at h; exact ⟨_, h⟩
    obtain ⟨ds, hl, hb, e1⟩ := draws_0ff0 c 12 (1000000) (by decide) (by decide) (by decide) (by decide +kernel)
    have hl : ds.length = 12 := hl
    have r0 : L2.atI (ds.map PV.int) 0 = some (.int (gd ds 0)) := atI_gd (by omega) (by omega)
    have r1 : L2.atI (ds.map PV.int) 1 = some (.int (gd ds 1)) := atI_gd (by omega) (by omega)
    obtain ⟨F, hF⟩ : ∃ F : Int → PySem.Str, ∀ d, (F d).length = 1 ∧ idxSP [.str z, .int (d % 94)] = some (.str (F d)) := ⟨fun d => Classical.choose (ones_str z hz hz2 d), fun d => Classical.choose_spec (ones_str z hz hz2 d)⟩
    obtain ⟨xs, hxs, hxl⟩ := cutP_ints ds (some 1) (some (2 + gd ds 0 % 10))
    have hx6 : xs.length ≤ 1000000 := by omega
    have c1 : ∀ ρ : Br.Env, (∀ d ∈ xs, cF ph_law_7975 (.one 8) [8] [] el_law_7975_1 (.int d) ρ = .ok (some (.str (F d))) ρ) → compL (cF ph_law_7975 (.one 8) [8] [] el_law_7975_1) (xs.map .int) ρ = .ok ((xs.map F).map .str) ρ := fun ρ h => comp_mp .str F h
    obtain ⟨T, hT⟩ : ∃ T : PySem.Str, joinP [.str "", .lst ((xs.map F).map .str)] = some (.str T) := by
      have hs : ∀ l : List Int, ((l.map F).map (·.length)).sum = l.length := fun l => by
        induction l with
        | nil => rfl
        | cons x l ih => rw [List.map_cons, List.map_cons, List.sum_cons, ih, (hF x).1, List.length_cons]; omega
      refine ⟨Txt.join "" (xs.map F), ?_⟩
      show (strsOf ((xs.map F).map .str)).bind (fun ys => if (ys.map (·.length)).sum + ys.length * ("" : PySem.Str).length ≤ LIM then some (PV.str (Txt.join "" ys)) else none) = some (PV.str (Txt.join "" (xs.map F)))
      rw [strsOf_map, Option.bind_some, hs, show ("" : PySem.Str).length = 0 from rfl, if_pos (by unfold LIM; omega)]
    have e2 := ex_7975 (gd ds 1)
    have e3 := marks_5739 3 (by decide)
    have e3 : g_law_marks_5739 [.fro (.exc "NoRatio")] = .ok (.own (.lst (bls10 3))) [.fro (.exc "NoRatio")] := e3
    have e4 := neOP_same (p := .lst (bls10 3)) rfl
    have r10 : rngOk 10 := rng_ok (by omega) (by omega)
    have l10 : (rngP 0 10).length ≤ 1000000 := by rw [rngP_len]; omega
    have cm : ∀ ρ : Br.Env, (∀ x ∈ rngP 0 10, cF ph_law_7975 (.one 9) [9] [] el_law_7975_2 x ρ = .ok (some (.bl (decide (x.i = ((3 : Nat) : Int))))) ρ) → compL (cF ph_law_7975 (.one 9) [9] [] el_law_7975_2) (rngP 0 10) ρ = .ok (bls10 3) ρ := fun ρ h => by rw [← rng10]; exact compL_map h
    have lp : ∀ (l_text l_caught l_e l_k : Option LV), ∃ ρ', forL (bindS (exSs ph_law_7975 1000000 bd_law_7975_3) (.one 7)) (rngP 0 10) [some (.fro (.lst ((ns).map .int))), some (.fro (.int (c))), some (.own (.lst (ds.map .int))), l_text, some (.own (.lst (mk10.map .exc))), l_caught, l_e, l_k, none, none] = .nx ρ' ∧
        ∃ m_text m_caught m_e m_k : Option LV, ρ' = [some (.fro (.lst ((ns).map .int))), some (.fro (.int (c))), some (.own (.lst (ds.map .int))), m_text, some (.own (.lst (mk10.map .exc))), m_caught, m_e, m_k, none, none] := fun l_text l_caught l_e l_k => by
      refine forL_inv (f := bindS (exSs ph_law_7975 1000000 bd_law_7975_3) (.one 7)) (xs := rngP 0 10) (fun i ρ => ∃ m_text m_caught m_e m_k : Option LV, ρ = [some (.fro (.lst ((ns).map .int))), some (.fro (.int (c))), some (.own (.lst (ds.map .int))), m_text, some (.own (.lst (mk10.map .exc))), m_caught, m_e, m_k, none, none]) ⟨_, _, _, _, rfl⟩ fun i x ρ hx hi => ?_
      obtain ⟨m_text, m_caught, m_e, m_k, rfl⟩ := hi
      obtain ⟨rfl, hi2⟩ := rngP_at hx
      obtain ⟨ρ', r1, r2⟩ := rnd_7975 (c := c) (ns := ns) (ds := ds) (k := i) (by omega) m_text m_caught m_e m_k
      rw [show (0 : Int) + (i : Int) = i by omega]
      exact ⟨ρ', .inl r1, r2⟩
    have w10 : ∀ v : Int, (v = 1 ∨ v ≠ 1) := fun v => by omega
    obtain ⟨T2, hT2⟩ : ∃ T2 : PySem.Str, T2 = if gd ds 0 / 10 % 4 = 1 then ("" : PySem.Str) else T := ⟨_, rfl⟩
    obtain ⟨ρ', f1, m_text, m_caught, m_e, m_k, rfl⟩ := lp (some (.fro (.str T2))) (some (.fro (.exc "NoRatio"))) none l_k
    refine ⟨[some (.fro (.lst ((ns).map .int))), some (.fro (.int (c))), some (.own (.lst (ds.map .int))), m_text, some (.own (.lst (mk10.map .exc))), m_caught, m_e, m_k, none, none], .inl ?_, _, _, _, _, _, _, _, rfl⟩
    simp only [mk10, List.map_cons, List.map_nil] at f1 ⊢
    simp -implicitDefEqProofs [evx, -L2.atI, -cutP, bd_law_7975_4, ph_law_7975, e1, r0, r1, hxs, hx6]
    rw [c1 _ fun d hd => by
      have := (hF d).2
      simp -implicitDefEqProofs [evx, -Br.idxSP, el_law_7975_1, ph_law_7975, es, this]]
    simp -implicitDefEqProofs [evx, -L2.atI, -Br.joinP, -List.map_map, ph_law_7975, hT, r0, r1]
    by_cases h : gd ds 0 / 10 % 4 = 1
    · rw [if_pos h] at hT2
      subst hT2
      simp -implicitDefEqProofs [evx, -L2.atI, ph_law_7975, h, bd_law_7975_1, bd_law_7975_2, e2, r1, e3, r10, l10]
      rw [cm _ fun x hx => by
        obtain ⟨i, rfl, _, _⟩ := rngP_mem hx
        simp -implicitDefEqProofs [evx, el_law_7975_2]]
      generalize bls10 3 = L at *
      simp -implicitDefEqProofs [evx, -Br.neOP, ph_law_7975, e4, r10, l10, f1]
    · rw [if_neg h] at hT2
      subst hT2
      simp -implicitDefEqProofs [evx, -L2.atI, ph_law_7975, h, bd_law_7975_1, bd_law_7975_2, e2, r1, e3, r10, l10]
      rw [cm _ fun x hx => by
        obtain ⟨i, rfl, _, _⟩ := rngP_mem hx
        simp -implicitDefEqProofs [evx, el_law_7975_2]]
      generalize bls10 3 = L at *
      simp -implicitDefEqProofs [evx, -Br.neOP, ph_law_7975, e4, r10, l10, f1]
  obtain ⟨ρ1, h1, l_cell, l_draws, l_text, l_made, l_caught, l_e, l_k, rfl⟩ := forL_inv (f := bindS (exSs ph_law_7975 1000000 bd_law_7975_4) (.one 1)) (xs := (ns.take 20).map PV.int ++ [.int ns.length])
    (ρ := [some (.fro (.lst ((ns).map .int))), none, none, none, none, none, none, none, none, none]) (fun i ρ => ∃ l_cell l_draws l_text l_made l_caught l_e l_k : Option LV, ρ = [some (.fro (.lst ((ns).map .int))), l_cell, l_draws, l_text, l_made, l_caught, l_e, l_k, none, none]) ⟨_, _, _, _, _, _, _, rfl⟩ stp
  have ec : cutP (ns.map PV.int) none (some 20) = (ns.take 20).map PV.int := by
    rw [List.map_take]
    show cutP (ns.map PV.int) none (some ((20 : Nat) : Int)) = (ns.map PV.int).take 20
    unfold cutP
    rw [HT.sIx_none, HT.sIx_nat]
    simp only [List.drop_zero, Nat.sub_zero, List.length_map]
    by_cases h : 20 ≤ ns.length
    · rw [Nat.min_eq_left h]
    · rw [List.take_of_length_le (by simp; omega), List.take_of_length_le (by simp; omega)]
  have hl5 : min 20 ns.length ≤ 999999 := by omega
  have hc2 : ns.length + 1 ≤ 1000000 := by omega
  (unfold g_law_7975 ir_law_7975; rw [runFn_eq _ _ _ _ ⟨rfl, by decide, rfl⟩])
  simp -implicitDefEqProofs [evx, -List.map_take, ec, hl5, h1]
end Cm
set_option maxHeartbeats 0
namespace Lk05
open PySem PySem.Spec PyProof.Rows L2 Br Cm
structure Hx (K : PySem.W.Frag) (mg : Str → Option Value) : Prop where
  d__law_marks : Dn K mg "_law_marks" s__law_marks
  d__law_mixed : Dn K mg "_law_mixed" s__law_mixed
  d__law_signs : Dn K mg "_law_signs" s__law_signs
  d_greatest_part : Dn K mg "greatest_part" s_greatest_part
  d__law_draws : Dn K mg "_law_draws" s__law_draws
  d_ratio_of : Dn K mg "ratio_of" s_ratio_of
  d_law : Dn K mg "law" s_law
  b_ValueError : mg "ValueError" = none
  b_abs : mg "abs" = none
  b_int : mg "int" = none
  b_isinstance : mg "isinstance" = none
  b_len : mg "len" = none
  b_range : mg "range" = none
  x_NoBack : Xn K mg "NoBack"
  x_NoHeap : Xn K mg "NoHeap"
  x_NoLot : Xn K mg "NoLot"
  x_NoRatio : Xn K mg "NoRatio"
  x_NoRow : Xn K mg "NoRow"
  x_NoSize : Xn K mg "NoSize"
  x_NoText : Xn K mg "NoText"
  x_TooFew : Xn K mg "TooFew"
  x_TooMany : Xn K mg "TooMany"
  x_Unlike : Xn K mg "Unlike"
  c_BrimError : mg "BrimError" = some (.ref (He.ga K "BrimError"))
  c_NoBack : mg "NoBack" = some (.ref (He.ga K "NoBack"))
  c_NoHeap : mg "NoHeap" = some (.ref (He.ga K "NoHeap"))
  c_NoLot : mg "NoLot" = some (.ref (He.ga K "NoLot"))
  c_NoRatio : mg "NoRatio" = some (.ref (He.ga K "NoRatio"))
  c_NoRow : mg "NoRow" = some (.ref (He.ga K "NoRow"))
  c_NoSize : mg "NoSize" = some (.ref (He.ga K "NoSize"))
  c_NoText : mg "NoText" = some (.ref (He.ga K "NoText"))
  c_TooFew : mg "TooFew" = some (.ref (He.ga K "TooFew"))
  c_TooMany : mg "TooMany" = some (.ref (He.ga K "TooMany"))
  c_Unlike : mg "Unlike" = some (.ref (He.ga K "Unlike"))
  q_ex : EX ["NoRatio", "NoHeap", "NoLot", "Unlike", "TooMany", "NoSize", "TooFew", "NoText", "NoRow", "NoBack"] K
section
variable {P : Program} {w : World} {K : PySem.W.Frag} {mg : Str → Option Value} {base : Heap}
theorem sc__law_marks : FnScope ["made", "some"] ["made"] (defScope s__law_marks) := ⟨rfl, rfl, rfl, by decide +kernel, rfl, by decide +kernel, by decide +kernel⟩
theorem ok__law_marks (h : Hx K mg) : Ok P w K mg base 1 "_law_marks" ["made"] g_law_marks_5739 :=
  def_at ir_law_marks_5739 h.d__law_marks sc__law_marks rfl rfl (fun _ _ _ _ _ _ us hl => match us, hl with | [_], _ => rfl) fun cdv A outer s H E C bx =>
      (ss_cons (st_set (i := 1) bx.o.toXO rfl (locBy rfl) (by decide) (l_lst (es_cons (e_op (o_isX1 h.q_ex rfl h.b_isinstance bx.o.toXO (a_var (i := 0) rfl (visBy rfl)) (tc_own rfl h.c_NoBack))) (es_cons (e_op (o_isX1 h.q_ex rfl h.b_isinstance bx.o.toXO (a_var (i := 0) rfl (visBy rfl)) (tc_own rfl h.c_NoHeap))) (es_cons (e_op (o_isX1 h.q_ex rfl h.b_isinstance bx.o.toXO (a_var (i := 0) rfl (visBy rfl)) (tc_own rfl h.c_NoLot))) (es_cons (e_op (o_isX1 h.q_ex rfl h.b_isinstance bx.o.toXO (a_var (i := 0) rfl (visBy rfl)) (tc_own rfl h.c_NoRatio))) es_nil))))) rfl (.inl rfl))
      (ss_cons (st_set (i := 1) bx.o.toXO rfl (locBy rfl) (by decide) (l_op (b_add bx.o.toXO (a_var (i := 1) rfl (visBy rfl)) (a_val (e_lst (l_lst (es_cons (e_op (o_isX1 h.q_ex rfl h.b_isinstance bx.o.toXO (a_var (i := 0) rfl (visBy rfl)) (tc_own rfl h.c_NoRow))) (es_cons (e_op (o_isX1 h.q_ex rfl h.b_isinstance bx.o.toXO (a_var (i := 0) rfl (visBy rfl)) (tc_own rfl h.c_NoSize))) (es_cons (e_op (o_isX1 h.q_ex rfl h.b_isinstance bx.o.toXO (a_var (i := 0) rfl (visBy rfl)) (tc_own rfl h.c_NoText))) es_nil)))))))) rfl (.inl rfl))
      (ss_cons (st_ret (l_op (b_add bx.o.toXO (a_var (i := 1) rfl (visBy rfl)) (a_val (e_lst (l_lst (es_cons (e_op (o_isX1 h.q_ex rfl h.b_isinstance bx.o.toXO (a_var (i := 0) rfl (visBy rfl)) (tc_own rfl h.c_TooFew))) (es_cons (e_op (o_isX1 h.q_ex rfl h.b_isinstance bx.o.toXO (a_var (i := 0) rfl (visBy rfl)) (tc_own rfl h.c_TooMany))) (es_cons (e_op (o_isX1 h.q_ex rfl h.b_isinstance bx.o.toXO (a_var (i := 0) rfl (visBy rfl)) (tc_own rfl h.c_Unlike))) es_nil)))))))))
      ss_nil)))
theorem sc__law_mixed : FnScope ["cell", "k", "part"] ["cell", "k"] (defScope s__law_mixed) := ⟨rfl, rfl, rfl, by decide +kernel, rfl, by decide +kernel, by decide +kernel⟩
theorem ok__law_mixed (h : Hx K mg) : Ok P w K mg base 1 "_law_mixed" ["cell", "k"] g_law_mixed_a529 :=
  def_at ir_law_mixed_a529 h.d__law_mixed sc__law_mixed rfl rfl (fun _ _ _ _ _ _ us hl => match us, hl with | [_, _], _ => rfl) fun cdv A outer s H E C bx =>
      (ss_cons (st_set (i := 2) bx.o.toXO rfl (locBy rfl) (by decide) (l_op (b_mod bx.o.toXO (a_val (e_op (b_add bx.o.toXO (a_val (e_op (b_add bx.o.toXO (a_val (e_op (b_mul bx.o.toXO (a_val (e_op (b_mod bx.o.toXO (a_var (i := 0) rfl (visBy rfl)) (a_val e_int)))) (a_val e_int)))) (a_val (e_op (b_mul bx.o.toXO (a_val e_int) (a_var (i := 1) rfl (visBy rfl)))))))) (a_val e_int)))) (a_val e_int))) rfl (.inl rfl))
      (ss_cons (st_set (i := 2) bx.o.toXO rfl (locBy rfl) (by decide) (l_op (b_mod bx.o.toXO (a_val (e_op (b_mul bx.o.toXO (a_var (i := 2) rfl (visBy rfl)) (a_var (i := 2) rfl (visBy rfl))))) (a_val e_int))) rfl (.inl rfl))
      (ss_cons (st_ret (l_op (b_fdiv bx.o.toXO (a_val (e_op (b_mod bx.o.toXO (a_val (e_op (b_mul bx.o.toXO (a_val (e_op (b_add bx.o.toXO (a_var (i := 2) rfl (visBy rfl)) (a_val (e_op (b_mul bx.o.toXO (a_val e_int) (a_var (i := 1) rfl (visBy rfl)))))))) (a_val e_int)))) (a_val e_int)))) (a_val e_int))))
      ss_nil)))
theorem sc__law_signs : FnScope ["some"] [] (defScope s__law_signs) := ⟨rfl, rfl, rfl, by decide +kernel, rfl, by decide +kernel, by decide +kernel⟩
theorem ok__law_signs (h : Hx K mg) : Ok P w K mg base 1 "_law_signs" [] g_law_signs_b991 :=
  def_at ir_law_signs_b991 h.d__law_signs sc__law_signs rfl rfl (fun _ _ _ _ _ _ us hl => match us, hl with | [], _ => rfl) fun cdv A outer s H E C bx =>
      (ss_cons (st_set (i := 0) bx.o.toXO rfl (locBy rfl) (by decide) (l_of e_str) rfl (.inl rfl))
      (ss_cons (st_retV (i := 0) rfl (visBy rfl))
      ss_nil))
theorem sc_greatest_part : FnScope ["one", "other", "here", "behind"] ["one", "other"] (defScope s_greatest_part) := ⟨rfl, rfl, rfl, by decide +kernel, rfl, by decide +kernel, by decide +kernel⟩
theorem ok_greatest_part (h : Hx K mg) : Ok P w K mg base 1 "greatest_part" ["one", "other"] g_greatest_part_8724 :=
  def_at ir_greatest_part_8724 h.d_greatest_part sc_greatest_part rfl rfl (fun _ _ _ _ _ _ us hl => match us, hl with | [_, _], _ => rfl) fun cdv A outer s H E C bx =>
      (ss_cons (st_set (i := 2) bx.o.toXO rfl (locBy rfl) (by decide) (l_op (f_abs bx.o.toXO rfl h.b_abs (a_var (i := 0) rfl (visBy rfl)))) rfl (.inl rfl))
      (ss_cons (st_set (i := 3) bx.o.toXO rfl (locBy rfl) (by decide) (l_op (f_abs bx.o.toXO rfl h.b_abs (a_var (i := 1) rfl (visBy rfl)))) rfl (.inl rfl))
      (ss_cons (st_whl bx.po (x_gt bx.o.toXO (a_var (i := 3) rfl (visBy rfl)) (a_val e_int)) (ss_cons (st_par (i := 2) (j := 3) bx.o rfl rfl (by decide) rfl rfl (by decide) (by decide) (es_cons (e_var (i := 3) rfl (visBy rfl)) (es_cons (e_op (b_mod bx.o.toXO (a_var (i := 2) rfl (visBy rfl)) (a_var (i := 3) rfl (visBy rfl)))) es_nil)) (by rfl))
      ss_nil))
      (ss_cons (st_retV (i := 2) rfl (visBy rfl))
      ss_nil))))
theorem sc__law_draws : FnScope ["cell", "many", "base", "found", "left", "k", "number", "j"] ["cell", "many", "base"] (defScope s__law_draws) := ⟨rfl, rfl, rfl, by decide +kernel, rfl, by decide +kernel, by decide +kernel⟩
theorem ok__law_draws (h : Hx K mg) : Ok P w K mg base 2 "_law_draws" ["cell", "many", "base"] g_law_draws_0ff0 :=
  def_at ir_law_draws_0ff0 h.d__law_draws sc__law_draws rfl rfl (fun _ _ _ _ _ _ us hl => match us, hl with | [_, _, _], _ => rfl) fun cdv A outer s H E C bx =>
      (ss_cons (st_set (i := 3) bx.o.toXO rfl (locBy rfl) (by decide) (l_lst es_nil) rfl (.inl rfl))
      (ss_cons (st_set (i := 4) bx.o.toXO rfl (locBy rfl) (by decide) (l_of e_int) rfl (.inl rfl))
      (ss_cons (st_if (x_ge bx.o.toXO (a_var (i := 0) rfl (visBy rfl)) (a_val (e_op (b_pow bx.o.toXO (a_val e_int) (a_val e_int))))) (ss_cons (st_set (i := 4) bx.o.toXO rfl (locBy rfl) (by decide) (l_op (b_sub bx.o.toXO (a_var (i := 0) rfl (visBy rfl)) (a_val (e_op (b_pow bx.o.toXO (a_val e_int) (a_val e_int)))))) rfl (.inl rfl))
      ss_nil) ss_nil)
      (ss_cons (st_for bx.o bx.po (s_rng1 (by rfl) h.b_range (e_var (i := 1) rfl (visBy rfl))) (g_name bx.o.toXO (i := 5) rfl (locBy rfl)) (by decide) (ss_cons (st_if (x_gt bx.o.toXO (a_var (i := 4) rfl (visBy rfl)) (a_val e_int)) (ss_cons (st_app (i := 3) rfl (visBy rfl) (e_op (b_mod bx.o.toXO (a_var (i := 4) rfl (visBy rfl)) (a_var (i := 2) rfl (visBy rfl)))))
      (ss_cons (st_set (i := 4) bx.o.toXO rfl (locBy rfl) (by decide) (l_op (b_fdiv bx.o.toXO (a_var (i := 4) rfl (visBy rfl)) (a_var (i := 2) rfl (visBy rfl)))) rfl (.inl rfl))
      ss_nil)) (ss_cons (st_set (i := 6) bx.o.toXO rfl (locBy rfl) (by decide) (l_of e_int) rfl (.inl rfl))
      (ss_cons (st_for bx.o bx.po (s_rng1 (by rfl) h.b_range (e_op (b_add bx.o.toXO (a_val e_int) (a_val (e_op (b_mul bx.o.toXO (a_val (e_op (f_int bx.o.toXO rfl h.b_int (a_val (e_op (c_gt bx.o.toXO (a_var (i := 2) rfl (visBy rfl)) (a_val (e_op (b_pow bx.o.toXO (a_val e_int) (a_val e_int)))))))))) (a_val e_int))))))) (g_name bx.o.toXO (i := 7) rfl (locBy rfl)) (by decide) (ss_cons (st_set (i := 6) bx.o.toXO rfl (locBy rfl) (by decide) (l_op (b_add bx.o.toXO (a_val (e_op (b_mul bx.o.toXO (a_var (i := 6) rfl (visBy rfl)) (a_val e_int)))) (a_val (e_op (b_mod bx.o.toXO (a_val (e_call (l_fn bx.o.toXO (j := 209) (ok__law_mixed h) (bx.room.mono (by decide)) rfl bx.tk (as_cons (a_var (i := 0) rfl (visBy rfl)) (as_cons (a_val (e_op (b_add bx.o.toXO (a_val (e_op (b_mul bx.o.toXO (a_val e_int) (a_var (i := 5) rfl (visBy rfl))))) (a_var (i := 7) rfl (visBy rfl))))) as_nil))))) (a_val e_int)))))) rfl (.inl rfl))
      ss_nil))
      (ss_cons (st_app (i := 3) rfl (visBy rfl) (e_op (b_mod bx.o.toXO (a_var (i := 6) rfl (visBy rfl)) (a_var (i := 2) rfl (visBy rfl)))))
      ss_nil))))
      ss_nil))
      (ss_cons (st_retV (i := 3) rfl (visBy rfl))
      ss_nil)))))
theorem sc_ratio_of : FnScope ["top", "bottom", "part"] ["top", "bottom"] (defScope s_ratio_of) := ⟨rfl, rfl, rfl, by decide +kernel, rfl, by decide +kernel, by decide +kernel⟩
theorem ok_ratio_of (h : Hx K mg) : Ok P w K mg base 2 "ratio_of" ["top", "bottom"] g_ratio_of_84ca :=
  def_at ir_ratio_of_84ca h.d_ratio_of sc_ratio_of rfl rfl (fun _ _ _ _ _ _ us hl => match us, hl with | [_, _], _ => rfl) fun cdv A outer s H E C bx =>
      (ss_cons (st_if (x_eq bx.o.toXO (a_var (i := 1) rfl (visBy rfl)) (a_val e_int)) (ss_cons (st_rais bx.o bx.tk h.x_NoRatio rfl)
      ss_nil) ss_nil)
      (ss_cons (st_set (i := 2) bx.o.toXO rfl (locBy rfl) (by decide) (l_fn bx.o.toXO (j := 440) (ok_greatest_part h) (bx.room.mono (by decide)) rfl bx.tk (as_cons (a_var (i := 0) rfl (visBy rfl)) (as_cons (a_var (i := 1) rfl (visBy rfl)) as_nil))) rfl (.inl rfl))
      (ss_cons (st_if (x_lt bx.o.toXO (a_var (i := 1) rfl (visBy rfl)) (a_val e_int)) (ss_cons (st_set (i := 2) bx.o.toXO rfl (locBy rfl) (by decide) (l_op (b_sub bx.o.toXO (a_val e_int) (a_var (i := 2) rfl (visBy rfl)))) rfl (.inl rfl))
      ss_nil) ss_nil)
      (ss_cons (st_ret (l_of (e_tup (es_cons (e_op (b_fdiv bx.o.toXO (a_var (i := 0) rfl (visBy rfl)) (a_var (i := 2) rfl (visBy rfl)))) (es_cons (e_op (b_fdiv bx.o.toXO (a_var (i := 1) rfl (visBy rfl)) (a_var (i := 2) rfl (visBy rfl)))) es_nil)))))
      ss_nil))))
theorem sc_law : FnScope ["script", "cell", "draws", "text", "made", "caught", "e", "k", "draw", "j"] ["script"] (defScope s_law) := ⟨rfl, rfl, rfl, by decide +kernel, rfl, by decide +kernel, by decide +kernel⟩
theorem ok_law (h : Hx K mg) : OkA P w K mg base callerA "law" ["script"] g_law_7975 :=
  def_atA (k := 2) ir_law_7975 h.d_law ⟨rfl, by decide, by decide⟩ rfl sc_law rfl rfl (fun _ _ _ _ _ _ us hl => match us, hl with | [_], _ => rfl) fun cdv outer s H E C bx gd =>
      (ss_cons (st_for bx.o bx.po (s_seq bx.o.toXO (e_op (b_add bx.o.toXO (a_val (e_op (q_sl01 bx.o.toXO (a_var (i := 0) rfl (visBy rfl)) (a_val e_int)))) (a_val (e_lst (l_lst (es_cons (e_op (f_len bx.o.toXO rfl h.b_len (a_var (i := 0) rfl (visBy rfl)))) es_nil))))))) (g_name bx.o.toXO (i := 1) rfl (locBy rfl)) (by decide) (ss_cons (st_set (i := 2) bx.o.toXO rfl (locBy rfl) (by decide) (l_fn bx.o.toXO (j := 77) (ok__law_draws h) (bx.room.mono (by decide)) rfl bx.tk (as_cons (a_var (i := 1) rfl (visBy rfl)) (as_cons (a_val e_int) (as_cons (a_val (e_op (b_pow bx.o.toXO (a_val e_int) (a_val e_int)))) as_nil)))) rfl (.inl rfl))
      (ss_cons (st_set (i := 3) bx.o.toXO rfl (locBy rfl) (by decide) (l_mth (m_join bx.o.toXO (a_val e_str) (a_val (e_comp (l_comp bx.o (own := [("draw", 8)]) (s_seq bx.o.toXO (q_sl11 bx.o.toXO (a_var (i := 2) rfl (visBy rfl)) e_int (e_op (b_add bx.o.toXO (a_val e_int) (a_val (e_op (b_mod bx.o.toXO (a_val (e_op (o_ix bx.o.toXO (a_var (i := 2) rfl (visBy rfl)) (a_val e_int)))) (a_val e_int)))))))) (blkOk_by (by rfl)) (by decide) (fun C1 h1 s1 H1 D1 c1 l1 => (g_name (bx.o.blk h1).toXO (i := 8) rfl (locBy rfl))) (fun C1 h1 s1 H1 D1 c1 l1 => ts_nil) (fun C1 h1 s1 H1 D1 c1 l1 => (e_op (o_ixS (bx.o.blk h1).toXO (a_val (e_call (l_fn0 (bx.o.blk h1).toXO (j := 326) (ok__law_signs h) (bx.room.mono (by decide)) rfl Br.takes0))) (a_val (e_op (b_mod (bx.o.blk h1).toXO (a_var (i := 8) rfl (visBy rfl)) (a_val e_int)))))))))))) rfl (.inl rfl))
      (ss_cons (st_if (x_eq bx.o.toXO (a_val (e_op (b_mod bx.o.toXO (a_val (e_op (b_fdiv bx.o.toXO (a_val (e_op (o_ix bx.o.toXO (a_var (i := 2) rfl (visBy rfl)) (a_val e_int)))) (a_val e_int)))) (a_val e_int)))) (a_val e_int)) (ss_cons (st_set (i := 3) bx.o.toXO rfl (locBy rfl) (by decide) (l_of e_str) rfl (.inl rfl))
      ss_nil) ss_nil)
      (ss_cons (st_set (i := 4) bx.o.toXO rfl (locBy rfl) (by decide) (l_lst (es_cons (e_op (o_mkX bx.o.toXO h.x_NoBack rfl (a_var (i := 3) rfl (visBy rfl)))) (es_cons (e_op (o_mkX bx.o.toXO h.x_NoHeap rfl (a_var (i := 3) rfl (visBy rfl)))) (es_cons (e_op (o_mkX bx.o.toXO h.x_NoLot rfl (a_var (i := 3) rfl (visBy rfl)))) (es_cons (e_op (o_mkX bx.o.toXO h.x_NoRatio rfl (a_var (i := 3) rfl (visBy rfl)))) (es_cons (e_op (o_mkX bx.o.toXO h.x_NoRow rfl (a_var (i := 3) rfl (visBy rfl)))) (es_cons (e_op (o_mkX bx.o.toXO h.x_NoSize rfl (a_var (i := 3) rfl (visBy rfl)))) (es_cons (e_op (o_mkX bx.o.toXO h.x_NoText rfl (a_var (i := 3) rfl (visBy rfl)))) es_nil)))))))) rfl (.inl rfl))
      (ss_cons (st_set (i := 4) bx.o.toXO rfl (locBy rfl) (by decide) (l_op (b_add bx.o.toXO (a_var (i := 4) rfl (visBy rfl)) (a_val (e_lst (l_lst (es_cons (e_op (o_mkX bx.o.toXO h.x_TooFew rfl (a_var (i := 3) rfl (visBy rfl)))) (es_cons (e_op (o_mkX bx.o.toXO h.x_TooMany rfl (a_var (i := 3) rfl (visBy rfl)))) (es_cons (e_op (o_mkX bx.o.toXO h.x_Unlike rfl (a_var (i := 3) rfl (visBy rfl)))) es_nil)))))))) rfl (.inl rfl))
      (ss_cons (st_set (i := 5) bx.o.toXO rfl (locBy rfl) (by decide) (l_of e_non) rfl (.inl rfl))
      (ss_cons (st_tryAs (i := 6) h.q_ex bx.o (by decide) bx.tk rfl rfl rfl rfl rfl rfl h.c_BrimError (fun W2 pn2 xe2 tk2 po2 => (ss_cons (st_ex (e_call (l_fn (bx.o.tr).toXO (j := 599) (ok_ratio_of h) (bx.room.mono (by decide)) rfl tk2 (as_cons (a_val (e_op (o_ix (bx.o.tr).toXO (a_var (i := 2) rfl (visBy rfl)) (a_val e_int)))) (as_cons (a_val e_int) as_nil)))))
      ss_nil)) (fun a2 pn2 => (ss_cons (st_set (i := 5) (bx.o.toXO.su) rfl (locBy rfl) (by decide) (l_of (e_var (i := 6) rfl (visBy rfl))) rfl (.inl rfl))
      ss_nil)))
      (ss_cons (st_if (x_ne bx.o.toXO (a_val (e_call (l_fn bx.o.toXO (j := 207) (ok__law_marks h) (bx.room.mono (by decide)) rfl bx.tk (as_cons (a_var (i := 5) rfl (visBy rfl)) as_nil)))) (a_val (e_comp (l_comp bx.o (own := [("j", 9)]) (s_rng1 (by rfl) h.b_range e_int) (blkOk_by (by rfl)) (by decide) (fun C3 h3 s3 H3 D3 c3 l3 => (g_name (bx.o.blk h3).toXO (i := 9) rfl (locBy rfl))) (fun C3 h3 s3 H3 D3 c3 l3 => ts_nil) (fun C3 h3 s3 H3 D3 c3 l3 => (e_op (c_eq (bx.o.blk h3).toXO (a_var (i := 9) rfl (visBy rfl)) (a_val e_int)))))))) (ss_cons (st_ret (l_of e_bl))
      ss_nil) ss_nil)
      (ss_cons (st_for bx.o bx.po (s_rng1 (by rfl) h.b_range e_int) (g_name bx.o.toXO (i := 7) rfl (locBy rfl)) (by decide) (ss_cons (st_if (PW.pt (w_or (t_not (t_val (e_op (o_isX1 h.q_ex rfl h.b_isinstance bx.o.toXO (a_val (e_op (o_ix bx.o.toXO (a_var (i := 4) rfl (visBy rfl)) (a_var (i := 7) rfl (visBy rfl))))) (tc_own rfl h.c_BrimError))))) (w_or1 (t_not (t_val (e_op (o_isX1 h.q_ex rfl h.b_isinstance bx.o.toXO (a_val (e_op (o_ix bx.o.toXO (a_var (i := 4) rfl (visBy rfl)) (a_var (i := 7) rfl (visBy rfl))))) (tc_ve rfl h.b_ValueError)))))))) (ss_cons (st_ret (l_of e_bl))
      ss_nil) ss_nil)
      (ss_cons (st_if (x_ne bx.o.toXO (a_val (e_call (l_fn bx.o.toXO (j := 207) (ok__law_marks h) (bx.room.mono (by decide)) rfl bx.tk (as_cons (a_val (e_op (o_ix bx.o.toXO (a_var (i := 4) rfl (visBy rfl)) (a_var (i := 7) rfl (visBy rfl))))) as_nil)))) (a_val (e_comp (l_comp bx.o (own := [("j", 9)]) (s_rng1 (by rfl) h.b_range e_int) (blkOk_by (by rfl)) (by decide) (fun C4 h4 s4 H4 D4 c4 l4 => (g_name (bx.o.blk h4).toXO (i := 9) rfl (locBy rfl))) (fun C4 h4 s4 H4 D4 c4 l4 => ts_nil) (fun C4 h4 s4 H4 D4 c4 l4 => (e_op (c_eq (bx.o.blk h4).toXO (a_var (i := 9) rfl (visBy rfl)) (a_var (i := 7) rfl (visBy rfl))))))))) (ss_cons (st_ret (l_of e_bl))
      ss_nil) ss_nil)
      ss_nil)))
      ss_nil))))))))))
      (ss_cons (st_ret (l_of e_bl))
      ss_nil))
end
theorem facts {K : PySem.W.Frag} {h : Heap} {mg : Str → Option Value} (X : K.In h) (G : h.Ns mainGlobals mg) (c0 : SaysX (exB ["NoRatio", "NoHeap", "NoLot", "Unlike", "TooMany", "NoSize", "TooFew", "NoText", "NoRow", "NoBack"]) fa fn K) : Hx K mg where
  d__law_marks := dn_of X G c0.2 0 0 rfl rfl
  d__law_mixed := dn_of X G c0.2 1 1 rfl rfl
  d__law_signs := dn_of X G c0.2 2 2 rfl rfl
  d_greatest_part := dn_of X G c0.2 3 3 rfl rfl
  d__law_draws := dn_of X G c0.2 4 4 rfl rfl
  d_ratio_of := dn_of X G c0.2 5 5 rfl rfl
  d_law := dn_of X G c0.2 6 6 rfl rfl
  b_ValueError := fr_of X G c0.2 7 rfl
  b_abs := fr_of X G c0.2 8 rfl
  b_int := fr_of X G c0.2 9 rfl
  b_isinstance := fr_of X G c0.2 10 rfl
  b_len := fr_of X G c0.2 11 rfl
  b_range := fr_of X G c0.2 12 rfl
  x_NoBack := xn_of X G c0.2 13 23 rfl rfl
  x_NoHeap := xn_of X G c0.2 14 24 rfl rfl
  x_NoLot := xn_of X G c0.2 15 25 rfl rfl
  x_NoRatio := xn_of X G c0.2 16 26 rfl rfl
  x_NoRow := xn_of X G c0.2 17 27 rfl rfl
  x_NoSize := xn_of X G c0.2 18 28 rfl rfl
  x_NoText := xn_of X G c0.2 19 29 rfl rfl
  x_TooFew := xn_of X G c0.2 20 30 rfl rfl
  x_TooMany := xn_of X G c0.2 21 31 rfl rfl
  x_Unlike := xn_of X G c0.2 22 32 rfl rfl
  c_BrimError := He.glo_ok X G (c0.2.fact 33 rfl)
  c_NoBack := He.glo_ok X G (c0.2.fact 34 rfl)
  c_NoHeap := He.glo_ok X G (c0.2.fact 35 rfl)
  c_NoLot := He.glo_ok X G (c0.2.fact 36 rfl)
  c_NoRatio := He.glo_ok X G (c0.2.fact 37 rfl)
  c_NoRow := He.glo_ok X G (c0.2.fact 38 rfl)
  c_NoSize := He.glo_ok X G (c0.2.fact 39 rfl)
  c_NoText := He.glo_ok X G (c0.2.fact 40 rfl)
  c_TooFew := He.glo_ok X G (c0.2.fact 41 rfl)
  c_TooMany := He.glo_ok X G (c0.2.fact 42 rfl)
  c_Unlike := He.glo_ok X G (c0.2.fact 43 rfl)
  q_ex := exB_ok c0.1
end Lk05
open PySem PySem.W PySem.Calls PyProof.Rows
theorem PySem.Challenge.cw_brimyard_k05_refusals_apart_holds : PySem.Challenge.rw_brimyard_k05_refusals_apart.Holds := by
  w_on; o_law
  refine HandSHeadRun.head_any (r := OpenLaw.row PySem.Challenge.rw_brimyard_k05_refusals_apart) (q := view (OpenLaw.row PySem.Challenge.rw_brimyard_k05_refusals_apart).prog [20]) (H := Lk05.hk) (ob := Lk05.ob) (M := 2920) (loose := ["BrimError", "NoRatio", "NoHeap", "NoLot", "Unlike", "TooMany", "NoSize", "TooFew", "NoText", "NoRow", "NoBack", "greatest_part", "ratio_of", "_law_mixed", "_law_draws", "_law_signs", "_law_marks"]) (d := HandSHeadRun.topDef (OpenLaw.row PySem.Challenge.rw_brimyard_k05_refusals_apart).prog 20) (kwd := []) Lk05.ob_eq
    (by kernel_rfl) (fun s => by kernel_rfl) Lk05.run (by kernel_rfl) (by kernel_rfl) (by kernel_rfl) (by rfl) (by first | assumption | decide +kernel) (by decide +kernel) ⟨rfl, rfl, rfl, rfl, rfl, by decide +kernel⟩ ?hw ?hc
  case hw => w_witness2
  case hc =>
    refine Br.walk_P (l := PySem.Challenge.rw_brimyard_k05_refusals_apart) (n := 63) (x := "script") (g := Cm.g_law_7975) rfl (by decide) (by kernel_rfl) Cm.law_7975_pure ?F
    intro w mg h Y G
    obtain ⟨K, KX, c⟩ := Y
    have hx := Lk05.facts KX G c
    refine ⟨K, KX, fun base _ _ => ?_⟩
    have e : (HandSHeadRun.topDef (OpenLaw.row PySem.Challenge.rw_brimyard_k05_refusals_apart).prog 20).name = ("law" : PySem.Str) := by kernel_rfl
    rw [e]
    exact Lk05.ok_law hx
