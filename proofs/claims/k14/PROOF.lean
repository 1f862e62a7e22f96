import PyProof.Rows.All
import HandS.Iter
import KE.GoesMore
import PyProof.EnumMake
import PyProof.Draws
import KE.DataMinMax
import Wide.All
import OpenK.AllK
import Wide.FinOn
import HandS.ForMost
import HandS.ForSpec
import HandS.HeadHook1
import KE.KeyNested
import HandS.IsInst
import HandS.Text
import KE.SortKeyed
import HandS.DictEq
import PyProof.EqKinds
import HandS.TupAny
import HandS.TupLe
import HandS.SortInts
import HandS.Wide
import HandS.TupMul
import HandS.More
import HandS.Deep
import HandS.NoneIn
import HandS.CallSlots
import HandS.Zip
import HandS.Rev
import HandS.Small
import HandS.ExcOwn
import HandS.Style
import HandS.Defaults
import HandS.Ends
import HandS.HeadEnd
import HandS.Words
import HandS.WordsExc
import HandS.WideBits
import HandS.Head0
import HandS.Head1
import HandS.Head2
import HandS.HeadHook2
import HandS.EndBits
import HandS.List
import HandS.Call
import HandS.SetFor
import KE.KDictPairs
import KE.DataFind
import KE.SortData
import HandS.ExcIs
import HandS.TryOnly
import HandS.HotCalls
import HandS.Flt
import HandS.Conv
import HandS.ListItems
import KE.KDictSum
import PyProof.ReprRoads
import HandS.SortKw
import KE.KDictKeyed
import HandS.TupSets
import HandS.StrMore
import HandS.Steps
import HandS.FStrTup
import KE.KStateDown
import Lean
import PySem.Challenge.RW_brimyard_k14_fillings_judged
set_option Elab.async false
set_option linter.all false
set_option maxRecDepth 100000
set_option maxHeartbeats 2000000
/-! BrE0: enumerate of a tuple; max of two data. -/
namespace Br
section
open PySem PySem.Spec PySem.W PyProof.Rows
theorem meets_enumT (l : Addr) (items : Array Value) (n : Nat) (dct : Option Addr) (sl : Array (Option Value)) :
    Meets (Builtin.«enumerate.__new__» ⟨[.type "enumerate", .ref l], []⟩) (fun _ R s => s.heap.get? l = some { cls := .type "tuple", dict := dct, data := .seq items n, slots := sl } ∧
      R (.ok (.ret (.ref (s.heap.push { cls := .type "tuple_iterator", data := .fields #[.ref l, .int 0 0] }).objs.size)))
        { s with heap := (s.heap.push { cls := .type "tuple_iterator", data := .fields #[.ref l, .int 0 0] }).push { cls := .type "enumerate", data := .fields #[.none, .bool false, .ref s.heap.objs.size, rawInt 0, .none, .none] } }) :=
  .of_wp fun prog w A R s h => by
    obtain ⟨hp, g, d, tk, os⟩ := s; obtain ⟨hl, h⟩ := h
    have hsub := sub_enumerate
    have hL : Heap.IsTuple (Shared.heap ⟨hp, g, d, tk, os⟩) l items := ⟨_, hl, rfl, n, rfl⟩
    wp_walk using PySem.AutoSeq1.wpAny_loadPart' hl
    refine wpAny_stack_any fun st => wpAny_pure ?_
    split
    · rename_i c _ _ _ _ _
      cases (c == Value.type "enumerate")
      · wp_walk using PySem.AutoSeq1.wpAny_loadPart' hl, wpAny_pyIter_tuple hL
        exact ⟨_, rfl, h⟩
      · wp_walk using PySem.AutoSeq1.wpAny_loadPart' hl, wpAny_pyIter_tuple hL
        exact ⟨_, rfl, h⟩
    · wp_walk using PySem.AutoSeq1.wpAny_loadPart' hl, wpAny_pyIter_tuple hL
      exact ⟨_, rfl, h⟩
variable {prog : Program} {w : World} {A : Around} {E : Value → Shared → Prop} {s : Shared}
theorem call_enumT {l : Addr} {items : Array Value} {Q : Value → Shared → Prop} (hL : s.heap.IsTuple l items)
    (h : ∀ h', IsEnum h' (s.heap.objs.size + 1) s.heap.objs.size 0 .none → h'.IsTupleIter s.heap.objs.size l 0 → h'.objs.size = s.heap.objs.size + 2 →
      (∀ b o, s.heap.get? b = some o → h'.get? b = some o) → Q (.ref (s.heap.objs.size + 1)) { s with heap := h' }) :
    wpAny (model prog w) A (call (.type "enumerate") [.ref l]) Q E s := by
  obtain ⟨⟨c, dct, dt, sl⟩, hl, hc, n, hd⟩ := hL
  replace hc : c = .type "tuple" := hc
  replace hd : dt = .seq items n := hd
  subst hc hd
  refine callType_new F.called_enumerate (by decide) (F.typeCall_enumerate_1 _) (F.newCall_enumerate_1 _) (fun obj => F.args_object_init_2 obj _) F.entry_enumerate_new
    (meets_enumT l items n dct sl) ⟨hl, ?_⟩
  have hz : (s.heap.push { cls := .type "tuple_iterator", data := .fields #[.ref l, .int 0 0] }).objs.size = s.heap.objs.size + 1 := Heap.size_push ..
  show _ ∧ _
  rw [hz]
  have he : IsEnum ((s.heap.push { cls := .type "tuple_iterator", data := .fields #[.ref l, .int 0 0] }).push
      { cls := .type "enumerate", data := .fields #[.none, .bool false, .ref s.heap.objs.size, rawInt 0, .none, .none] }) (s.heap.objs.size + 1) s.heap.objs.size 0 .none := by
    have := Heap.get?_push_size (s.heap.push { cls := .type "tuple_iterator", data := .fields #[.ref l, .int 0 0] })
      (o := { cls := .type "enumerate", data := .fields #[.none, .bool false, .ref s.heap.objs.size, rawInt 0, .none, .none] }) rfl
    rw [hz] at this; exact this
  refine ⟨⟨_, he, rfl⟩, h _ he ⟨_, Heap.get?_push_of_some _ (Heap.get?_push_size _ rfl), rfl, rfl⟩ (by rw [Heap.size_push, hz]) fun b o x => Heap.get?_push_of_some _ (Heap.get?_push_of_some _ x)⟩
theorem pyNext_enumT_end {e it t : Addr} {n : Nat} {items : Array Value} {i : Int} {old : Value} {Q : Option Value → Shared → Prop} (hh : A.handled = none) (he : IsEnum s.heap e it i old) (hit : s.heap.IsTupleIter it t n) (ht : s.heap.IsTuple t items) (hx : items[n]? = none)
    (hQ : ∀ h', Heap.ExtBut it s.heap h' → Q none { s with heap := h' }) : wpAny (model prog w) A (pyNext (.ref e)) Q E s := by
  have hT : s.TypeIs (.ref e) "enumerate" := ⟨_, he, rfl⟩
  unfold pyNext
  refine wpAny_bind (wpAny_attempt (wpAny_callSpecial?_slot (name := Str.ofString "__next__") hT F.slot_enumerate_next
    (wpAny_call_entry F.slot_enumerate_next hT F.entry_enumerate_next ?_ (F.args_enumerate_next_1 _))))
  show wpAny _ _ (field (.ref e) 2 >>= _) _ _ _
  refine wpAny_bind (wpAny_field he rfl (x := .ref it) rfl ?_)
  refine wpAny_bind (wpAny_nextOf_tuple_end (A := A.in1) hh hit ht hx fun h' x he' hx' => ?_)
  obtain ⟨o, ho, hc⟩ := hx'
  refine wpAny_bind (wpAny_isInstance (T := "StopIteration") (b := true) ⟨o, ho, hc⟩ isSubtype_stop ?_)
  exact wpAny_pure (hQ _ he')
end
end Br
/-! BrA: plain values, how they lie in the heap, the state of a frame. -/
namespace Br
open PySem PySem.Spec PyProof.Rows L2

/-- plain values -/
inductive PV where
  | non | bl (b : Bool) | int (i : Int) | str (x : Str) | ty (n : String) | exc (c : Str)
  | tup (l : List PV) | xt (l : List PV) | lst (l : List PV) | dK (ks : List Key) (l : List PV) | dT (ks : List (List Key)) (l : List PV)
  | obj (c : Str) (ns : List Str) (l : List PV) | gt (l : List PV) | dX (ks : List PV) (l : List PV)
  deriving Inhabited

/-- .. as any tuple -/
def PV.dn : PV → PV
  | .xt l => .tup l
  | .gt l => .tup l
  | p => p
/-- a list that is read: tracked, known, or the script among the module's objects -/
def SqE (K : PySem.W.Frag) (H : Hp) (a : Addr) (xs : List V) : Prop := Rd H a (.lst xs) ∨ ∃ (its : Array Value) (n : Nat), K.lookup a = some { cls := .type "list", data := .seq its n } ∧ its.size ≤ sizeLine ∧ Vals xs its.toList
theorem SqE.sql {K : PySem.W.Frag} {H : Hp} {a : Addr} {xs : List V} (h : SqE K H a xs) : SqL K H a xs := by
  rcases h with h | ⟨its, n, h, hz, r⟩
  · exact .inl h
  · exact .inr ⟨_, its, n, h, rfl, rfl, rfl, hz, r⟩
/-- an exception object of the own class c -/
def ExcR (K : PySem.W.Frag) (F : Hp) (c : Str) (v : V) : Prop := ∃ a oe vs, v = .ref a ∧ F a = some (.ext fun h => h.get? a = some oe) ∧ Zc (.ref (He.ga K c)) none oe ∧ oe.data = .fields vs

mutual
/-- a value as a key: a whole number, or a tuple of such keys -/
def PV.nk : PV → Option NestedKey
  | .int i => some (.num i)
  | .tup l => (PV.nks l).map .tup
  | .xt l => (PV.nks l).map .tup
  | _ => none
def PV.nks : List PV → Option (List NestedKey)
  | [] => some []
  | p :: l => match PV.nk p, PV.nks l with
    | some k, some r => some (k :: r)
    | _, _ => none
end
def PV.kq (p : PV) : NestedKey := p.nk.getD .none
/-- a tuple that a dict may have as a key -/
def PV.kok : PV → Bool
  | .tup l => (PV.nks l).isSome && decide ((PV.kq (.tup l)).depth ≤ 8)
  | .xt l => (PV.nks l).isSome && decide ((PV.kq (.xt l)).depth ≤ 8)
  | _ => false
mutual
/-- only whole numbers and tuples -/
def ikN : NestedKey → Bool
  | .num _ => true
  | .tup l => ikNs l
  | _ => false
def ikNs : List NestedKey → Bool
  | [] => true
  | k :: l => ikN k && ikNs l
end
abbrev KX : List (NestedKey × Addr × V) → List (NestedKey × Addr × Value) → Prop := Paired fun p q => p.1 = q.1 ∧ p.2.1 = q.2.1 ∧ RelV p.2.2 q.2.2
/-- a dict whose keys are tuples that are tracked or known -/
def dxP (a : Addr) (kvs : List (NestedKey × Addr × V)) (h : Heap) : Prop := kvs.length ≤ sizeLine ∧ (a == sysModules) = false ∧ (∀ p ∈ kvs, ikN p.1 = true) ∧
  ∃ xs : List (NestedKey × Addr × Value), KX kvs xs ∧ ∃ o es ep, h.get? a = some o ∧ o.ExactDict ∧ o.data = .dict es ep ∧ (∀ (P : Program) (w : World), es.toList = xs.map (entryOfKey (nestedKind P w))) ∧ (xs.map (·.1)).Nodup
def dxO (a : Addr) (kvs : List (NestedKey × Addr × V)) : HO := .ext (dxP a kvs)
mutual
def Rep (K : PySem.W.Frag) (F : Hp) : PV → V → Prop
  | .non, v => v = .non
  | .bl b, v => v = .bl b
  | .int i, v => v = .int i
  | .str x, v => v = .str x
  | .ty n, v => v = .ty n
  | .exc c, v => ExcR K F c v
  | .tup l, v => ∃ a xs, v = .ref a ∧ F a = some (.tup xs) ∧ Reps K F l xs
  | .xt l, v => ∃ a xs o, v = .ref a ∧ F a = some (.frz o (.tup xs)) ∧ o.dict = none ∧ Reps K F l xs
  | .lst l, v => ∃ a xs, v = .ref a ∧ SqE K F a xs ∧ Reps K F l xs
  | .dK ks l, v => ∃ a xs, v = .ref a ∧ Rd F a (.dK (ks.zip xs)) ∧ ks.length = xs.length ∧ ks.Nodup ∧ Reps K F l xs
  | .dT ks l, v => ∃ a xs, v = .ref a ∧ Rd F a (.dT (ks.zip xs)) ∧ ks.length = xs.length ∧ ks.Nodup ∧ Reps K F l xs
  | .obj c ns l, v => ∃ a dx vs, v = .ref a ∧ F a = some (.ins (He.ga K c) dx (ns.zip vs)) ∧ ns.length = vs.length ∧ ns.Nodup ∧ Reps K F l vs
  | .gt l, v => ∃ a xs, v = .ref a ∧ SqT K F a xs ∧ Reps K F l xs
  | .dX ks l, v => ∃ (a : Addr) (bs : List Addr) (xs : List V), v = .ref a ∧ Rd F a (dxO a ((ks.map PV.kq).zip (bs.zip xs))) ∧ ks.length = bs.length ∧ ks.length = xs.length ∧ ks.all PV.kok = true ∧ (ks.map PV.kq).Nodup ∧ Reps K F ks (bs.map V.ref) ∧ Reps K F l xs
def Reps (K : PySem.W.Frag) (F : Hp) : List PV → List V → Prop
  | [], xs => xs = []
  | p :: l, xs => ∃ x r, xs = x :: r ∧ Rep K F p x ∧ Reps K F l r
end

section
variable {K : PySem.W.Frag} {F F' H H' : Hp}
theorem Same.sqt {a : Addr} {xs : List V} (e : Same F F') (h : SqT K F a xs) : SqT K F' a xs := by
  rcases h with (h | ⟨o, h⟩) | h
  · exact .inl (.inl (e _ _ h))
  · exact .inl (.inr ⟨o, e _ _ h⟩)
  · exact .inr h
theorem Same.sqe {a : Addr} {xs : List V} (e : Same F F') (h : SqE K F a xs) : SqE K F' a xs := by
  rcases h with (h | ⟨o, h⟩) | h
  · exact .inl (.inl (e _ _ h))
  · exact .inl (.inr ⟨o, e _ _ h⟩)
  · exact .inr h
theorem Rdm {a : Addr} {u : HO} (e : Same F F') (h : Rd F a u) : Rd F' a u := by
  rcases h with h | ⟨o, h⟩
  · exact .inl (e _ _ h)
  · exact .inr ⟨o, e _ _ h⟩
mutual
theorem Rep.mono (e : Same F F') : ∀ {p : PV} {v : V}, Rep K F p v → Rep K F' p v
  | .non, _, h => h
  | .bl _, _, h => h
  | .int _, _, h => h
  | .str _, _, h => h
  | .ty _, _, h => h
  | .exc _, _, h => by
    obtain ⟨a, oe, vs, h1, h2, h3⟩ := h
    exact ⟨a, oe, vs, h1, e _ _ h2, h3⟩
  | .tup l, _, h => by
    obtain ⟨a, xs, h1, h2, h3⟩ := h
    exact ⟨a, xs, h1, e _ _ h2, Reps.mono e h3⟩
  | .xt l, _, h => by
    obtain ⟨a, xs, o, h1, h2, h3, h4⟩ := h
    exact ⟨a, xs, o, h1, e _ _ h2, h3, Reps.mono e h4⟩
  | .lst l, _, h => by
    obtain ⟨a, xs, h1, h2, h3⟩ := h
    exact ⟨a, xs, h1, Same.sqe e h2, Reps.mono e h3⟩
  | .dK ks l, _, h => by
    obtain ⟨a, xs, h1, h2, h3, h4, h5⟩ := h
    exact ⟨a, xs, h1, Rdm e h2, h3, h4, Reps.mono e h5⟩
  | .dT ks l, _, h => by
    obtain ⟨a, xs, h1, h2, h3, h4, h5⟩ := h
    exact ⟨a, xs, h1, Rdm e h2, h3, h4, Reps.mono e h5⟩
  | .obj c ns l, _, h => by
    obtain ⟨a, dx, vs, h1, h2, h3, h4, h5⟩ := h
    exact ⟨a, dx, vs, h1, e _ _ h2, h3, h4, Reps.mono e h5⟩
  | .gt l, _, h => by
    obtain ⟨a, xs, h1, h2, h3⟩ := h
    exact ⟨a, xs, h1, Same.sqt e h2, Reps.mono e h3⟩
  | .dX ks l, _, h => by
    obtain ⟨a, bs, xs, h1, h2, h3, h4, h5, h6, h7, h8⟩ := h
    exact ⟨a, bs, xs, h1, Rdm e h2, h3, h4, h5, h6, Reps.mono e h7, Reps.mono e h8⟩
theorem Reps.mono (e : Same F F') : ∀ {l : List PV} {xs : List V}, Reps K F l xs → Reps K F' l xs
  | [], _, h => h
  | p :: l, _, h => by
    obtain ⟨x, r, h1, h2, h3⟩ := h
    exact ⟨x, r, h1, Rep.mono e h2, Reps.mono e h3⟩
end
/-- .. any tuple, at the top -/
def RepA (K : PySem.W.Frag) (F : Hp) (p : PV) (v : V) : Prop := match p with
  | .tup l => ∃ a xs, v = .ref a ∧ SqT K F a xs ∧ Reps K F l xs
  | p => Rep K F p v
theorem Rep.toA {p : PV} {v : V} (h : Rep K F p v) : RepA K F p v := by
  cases p with
  | tup l => obtain ⟨a, xs, h1, h2, h3⟩ := h; exact ⟨a, xs, h1, .inl (.inl h2), h3⟩
  | _ => exact h
theorem RepA.mono (e : Same F F') {p : PV} {v : V} (h : RepA K F p v) : RepA K F' p v := by
  cases p with
  | tup l => obtain ⟨a, xs, h1, h2, h3⟩ := h; exact ⟨a, xs, h1, Same.sqt e h2, h3.mono e⟩
  | _ => exact Rep.mono e h
/-- a tuple whose object is known, as any tuple -/
theorem Rep.dn {p : PV} {v : V} (h : Rep K F p v) : RepA K F (PV.dn p) v := by
  cases p with
  | xt l => obtain ⟨a, xs, o, h1, h2, h3, h4⟩ := h; exact ⟨a, xs, h1, .inl (.inr ⟨o, h2⟩), h4⟩
  | gt l => exact h
  | tup l => obtain ⟨a, xs, h1, h2, h3⟩ := h; exact ⟨a, xs, h1, .inl (.inl h2), h3⟩
  | _ => exact h
theorem Reps.nil : Reps K F [] [] := rfl
theorem Reps.cons {p : PV} {x : V} {l : List PV} {r : List V} (h : Rep K F p x) (t : Reps K F l r) : Reps K F (p :: l) (x :: r) := ⟨x, r, rfl, h, t⟩
theorem Reps.length : ∀ {l : List PV} {xs : List V}, Reps K F l xs → l.length = xs.length
  | [], _, h => by
    have h1 : _ = [] := h
    rw [h1]
    rfl
  | p :: l, _, h => by
    obtain ⟨x, r, rfl, h2, h3⟩ := h
    simp [h3.length]
theorem Reps.append : ∀ {l m : List PV} {xs ys : List V}, Reps K F l xs → Reps K F m ys → Reps K F (l ++ m) (xs ++ ys)
  | [], _, _, _, h, k => by
    have h1 : _ = [] := h
    subst h1
    exact k
  | p :: l, _, _, _, h, k => by
    obtain ⟨x, r, rfl, h2, h3⟩ := h
    exact .cons h2 (h3.append k)
theorem Reps.get : ∀ {l : List PV} {xs : List V} {i : Nat} {p : PV}, Reps K F l xs → l[i]? = some p → ∃ x, xs[i]? = some x ∧ Rep K F p x
  | [], _, _, _, _, e => by simp at e
  | p :: l, _, 0, q, h, e => by
    obtain ⟨x, r, rfl, h2, h3⟩ := h
    simp at e
    subst e
    exact ⟨x, rfl, h2⟩
  | p :: l, _, i + 1, q, h, e => by
    obtain ⟨x, r, rfl, h2, h3⟩ := h
    exact h3.get (i := i) (by simpa using e)
theorem Reps.get' {l : List PV} {xs : List V} {i : Nat} {x : V} (h : Reps K F l xs) (e : xs[i]? = some x) : ∃ p, l[i]? = some p ∧ Rep K F p x := by
  have hl := h.length
  obtain ⟨hi, _⟩ := List.getElem?_eq_some_iff.mp e
  have hi2 : i < l.length := by omega
  obtain ⟨y, h1, h2⟩ := h.get (List.getElem?_eq_getElem hi2)
  rw [e] at h1
  cases h1
  exact ⟨_, List.getElem?_eq_getElem hi2, h2⟩
theorem Reps.take : ∀ {l : List PV} {xs : List V} (n : Nat), Reps K F l xs → Reps K F (l.take n) (xs.take n)
  | _, _, 0, _ => by simp [Reps.nil]
  | [], _, n + 1, h => by
    have h1 : _ = [] := h
    subst h1
    exact h
  | p :: l, _, n + 1, h => by
    obtain ⟨x, r, rfl, h2, h3⟩ := h
    exact .cons h2 (h3.take n)
theorem Reps.drop : ∀ {l : List PV} {xs : List V} (n : Nat), Reps K F l xs → Reps K F (l.drop n) (xs.drop n)
  | _, _, 0, h => h
  | [], _, n + 1, h => by
    have h1 : _ = [] := h
    subst h1
    exact h
  | p :: l, _, n + 1, h => by
    obtain ⟨x, r, rfl, h2, h3⟩ := h
    exact h3.drop n
theorem Reps.set {p : PV} {x : V} (hp : Rep K F p x) : ∀ {l : List PV} {xs : List V} (n : Nat), Reps K F l xs → Reps K F (l.set n p) (xs.set n x)
  | [], _, _, h => by
    have h1 : _ = [] := h
    subst h1
    exact h
  | q :: l, _, 0, h => by
    obtain ⟨y, r, rfl, h2, h3⟩ := h
    exact .cons hp h3
  | q :: l, _, n + 1, h => by
    obtain ⟨y, r, rfl, h2, h3⟩ := h
    exact .cons h2 (h3.set hp n)
theorem Reps.reverse : ∀ {l : List PV} {xs : List V}, Reps K F l xs → Reps K F l.reverse xs.reverse
  | [], _, h => by
    have h1 : _ = [] := h
    subst h1
    exact h
  | p :: l, _, h => by
    obtain ⟨x, r, rfl, h2, h3⟩ := h
    rw [List.reverse_cons, List.reverse_cons]
    exact h3.reverse.append (.cons h2 .nil)
theorem Reps.eraseIdx : ∀ {l : List PV} {xs : List V} (n : Nat), Reps K F l xs → Reps K F (l.eraseIdx n) (xs.eraseIdx n)
  | [], _, n, h => by
    have h1 : _ = [] := h
    subst h1
    exact h
  | p :: l, _, 0, h => by
    obtain ⟨x, r, rfl, h2, h3⟩ := h
    exact h3
  | p :: l, _, n + 1, h => by
    obtain ⟨x, r, rfl, h2, h3⟩ := h
    exact .cons h2 (h3.eraseIdx n)
theorem Reps.dropLast {l : List PV} {xs : List V} (h : Reps K F l xs) : Reps K F l.dropLast xs.dropLast := by
  rw [List.dropLast_eq_take, List.dropLast_eq_take, h.length]
  exact h.take _
theorem Reps.ints : ∀ {ns : List Int} {xs : List V}, Reps K F (ns.map PV.int) xs → xs = ns.map V.int
  | [], _, h => h
  | n :: ns, _, h => by
    obtain ⟨x, r, rfl, h2, h3⟩ := h
    have h4 : x = .int n := h2
    rw [h4, Reps.ints h3]
    rfl
theorem Reps.of_ints : ∀ (ns : List Int), Reps K F (ns.map PV.int) (ns.map V.int)
  | [] => .nil
  | n :: ns => .cons rfl (Reps.of_ints ns)
end

/-! ### values that a frame's names hold -/
/-- fro: never written again; own: a list or a dict that no one else holds; ins: an instance that no one else holds -/
inductive LV where
  | fro (p : PV) | own (p : PV) | ins (c : Str) (ns : List Str) (ls : List LV)
  deriving Inhabited
abbrev Env := List (Option LV)

def OwnAt (K : PySem.W.Frag) (F H : Hp) (a : Addr) : PV → Prop
  | .lst l => ∃ xs, H a = some (.lst xs) ∧ Reps K F l xs
  | .dK ks l => ∃ xs, H a = some (.dK (ks.zip xs)) ∧ ks.length = xs.length ∧ ks.Nodup ∧ Reps K F l xs
  | .dT ks l => ∃ xs, H a = some (.dT (ks.zip xs)) ∧ ks.length = xs.length ∧ ks.Nodup ∧ Reps K F l xs
  | .dX ks l => ∃ (bs : List Addr) (xs : List V), H a = some (dxO a ((ks.map PV.kq).zip (bs.zip xs))) ∧ ks.length = bs.length ∧ ks.length = xs.length ∧ ks.all PV.kok = true ∧ (ks.map PV.kq).Nodup ∧ Reps K F ks (bs.map V.ref) ∧ Reps K F l xs
  | _ => False
theorem OwnAt.some {K : PySem.W.Frag} {F H : Hp} {a : Addr} {p : PV} (h : OwnAt K F H a p) : ∃ o, H a = .some o := by
  cases p with
  | lst l => obtain ⟨xs, h, _⟩ := h; exact ⟨_, h⟩
  | dK ks l => obtain ⟨xs, h, _⟩ := h; exact ⟨_, h⟩
  | dT ks l => obtain ⟨xs, h, _⟩ := h; exact ⟨_, h⟩
  | dX ks l => obtain ⟨bs, xs, h, _⟩ := h; exact ⟨_, h⟩
  | _ => exact False.elim h
theorem OwnAt.frame {K : PySem.W.Frag} {F H F' H' : Hp} {a : Addr} {p : PV} (e : Same F F') (k : H' a = H a) (h : OwnAt K F H a p) : OwnAt K F' H' a p := by
  cases p with
  | lst l => obtain ⟨xs, h, h2⟩ := h; exact ⟨xs, k.trans h, h2.mono e⟩
  | dK ks l => obtain ⟨xs, h, h2, h3, h4⟩ := h; exact ⟨xs, k.trans h, h2, h3, h4.mono e⟩
  | dT ks l => obtain ⟨xs, h, h2, h3, h4⟩ := h; exact ⟨xs, k.trans h, h2, h3, h4.mono e⟩
  | dX ks l => obtain ⟨bs, xs, h, h2, h3, h4, h5, h6, h7⟩ := h; exact ⟨bs, xs, k.trans h, h2, h3, h4, h5, h6.mono e, h7.mono e⟩
  | _ => exact False.elim h
/-- what lies at a, frozen, is the value -/
theorem OwnAt.rep {K : PySem.W.Frag} {F H : Hp} {a : Addr} {p : PV} (h : OwnAt K F H a p) (e : Same F H) : Rep K H p (.ref a) := by
  cases p with
  | lst l => obtain ⟨xs, h, h2⟩ := h; exact ⟨a, xs, rfl, .inl (.inl h), h2.mono e⟩
  | dK ks l => obtain ⟨xs, h, h2, h3, h4⟩ := h; exact ⟨a, xs, rfl, .inl h, h2, h3, h4.mono e⟩
  | dT ks l => obtain ⟨xs, h, h2, h3, h4⟩ := h; exact ⟨a, xs, rfl, .inl h, h2, h3, h4.mono e⟩
  | dX ks l => obtain ⟨bs, xs, h, h2, h3, h4, h5, h6, h7⟩ := h; exact ⟨a, bs, xs, rfl, .inl h, h2, h3, h4, h5, h6.mono e, h7.mono e⟩
  | _ => exact False.elim h
/-- .. also over a smaller frozen heap that has the object -/
theorem OwnAt.repF {K : PySem.W.Frag} {F H : Hp} {a : Addr} {p : PV} {o : HO} (h : OwnAt K F H a p) (ha : H a = .some o) (n : F a = none) : Rep K (upd F a o) p (.ref a) := by
  have e : Same F (upd F a o) := fun b u q => by rw [upd_ne (ne_of_none q n)]; exact q
  cases p with
  | lst l => obtain ⟨xs, h, h2⟩ := h; rw [ha] at h; cases h; exact ⟨a, xs, rfl, .inl (.inl upd_same), h2.mono e⟩
  | dK ks l => obtain ⟨xs, h, h2, h3, h4⟩ := h; rw [ha] at h; cases h; exact ⟨a, xs, rfl, .inl upd_same, h2, h3, h4.mono e⟩
  | dT ks l => obtain ⟨xs, h, h2, h3, h4⟩ := h; rw [ha] at h; cases h; exact ⟨a, xs, rfl, .inl upd_same, h2, h3, h4.mono e⟩
  | dX ks l => obtain ⟨bs, xs, h, h2, h3, h4, h5, h6, h7⟩ := h; rw [ha] at h; cases h; exact ⟨a, bs, xs, rfl, .inl upd_same, h2, h3, h4, h5, h6.mono e, h7.mono e⟩
  | _ => exact False.elim h

mutual
/-- how a name's value lies in the heap, and the addresses that it owns -/
def RepL (K : PySem.W.Frag) (F H : Hp) : LV → V → List Addr → Prop
  | .fro p, v, fp => Rep K F p v ∧ fp = []
  | .own p, v, fp => ∃ a, v = .ref a ∧ OwnAt K F H a p ∧ fp = [a]
  | .ins c ns ls, v, fp => ∃ a dx vs fr, v = .ref a ∧ H a = some (.ins (He.ga K c) dx (ns.zip vs)) ∧ ns.length = vs.length ∧ ns.Nodup ∧ RepLs K F H ls vs fr ∧ fp = a :: fr
def RepLs (K : PySem.W.Frag) (F H : Hp) : List LV → List V → List Addr → Prop
  | [], vs, fp => vs = [] ∧ fp = []
  | l :: ls, vs, fp => ∃ v r f1 f2, vs = v :: r ∧ RepL K F H l v f1 ∧ RepLs K F H ls r f2 ∧ fp = f1 ++ f2
end
section
variable {K : PySem.W.Frag} {F F' H H' : Hp}
mutual
theorem RepL.frame (e : Same F F') : ∀ {l : LV} {v : V} {fp : List Addr}, RepL K F H l v fp → (∀ a ∈ fp, H' a = H a) → RepL K F' H' l v fp
  | .fro p, _, _, h, _ => ⟨h.1.mono e, h.2⟩
  | .own p, _, _, h, k => by
    obtain ⟨a, h1, h2, rfl⟩ := h
    exact ⟨a, h1, h2.frame e (k a (by simp)), rfl⟩
  | .ins c ns ls, _, _, h, k => by
    obtain ⟨a, dx, vs, fr, h1, h2, h3, h4, h5, rfl⟩ := h
    exact ⟨a, dx, vs, fr, h1, (k a (by simp)).trans h2, h3, h4, RepLs.frame e h5 fun b hb => k b (by simp [hb]), rfl⟩
theorem RepLs.frame (e : Same F F') : ∀ {ls : List LV} {vs : List V} {fp : List Addr}, RepLs K F H ls vs fp → (∀ a ∈ fp, H' a = H a) → RepLs K F' H' ls vs fp
  | [], _, _, h, _ => h
  | l :: ls, _, _, h, k => by
    obtain ⟨v, r, f1, f2, h1, h2, h3, rfl⟩ := h
    exact ⟨v, r, f1, f2, h1, RepL.frame e h2 fun a ha => k a (by simp [ha]), RepLs.frame e h3 fun a ha => k a (by simp [ha]), rfl⟩
end
mutual
theorem RepL.there : ∀ {l : LV} {v : V} {fp : List Addr}, RepL K F H l v fp → ∀ a ∈ fp, ∃ o, H a = some o
  | .fro p, _, _, h, a, ha => by rw [h.2] at ha; cases ha
  | .own p, _, _, h, a, ha => by
    obtain ⟨b, h1, h2, rfl⟩ := h
    obtain rfl : a = b := by simpa using ha
    exact h2.some
  | .ins c ns ls, _, _, h, a, ha => by
    obtain ⟨b, dx, vs, fr, h1, h2, h3, h4, h5, rfl⟩ := h
    rcases List.mem_cons.mp ha with rfl | ha
    · exact ⟨_, h2⟩
    · exact RepLs.there h5 a ha
theorem RepLs.there : ∀ {ls : List LV} {vs : List V} {fp : List Addr}, RepLs K F H ls vs fp → ∀ a ∈ fp, ∃ o, H a = some o
  | [], _, _, h, a, ha => by rw [h.2] at ha; cases ha
  | l :: ls, _, _, h, a, ha => by
    obtain ⟨v, r, f1, f2, h1, h2, h3, rfl⟩ := h
    rcases List.mem_append.mp ha with ha | ha
    · exact RepL.there h2 a ha
    · exact RepLs.there h3 a ha
end
theorem RepLs.length : ∀ {ls : List LV} {vs : List V} {fp : List Addr}, RepLs K F H ls vs fp → ls.length = vs.length
  | [], _, _, h => by rw [h.1]; rfl
  | l :: ls, _, _, h => by
    obtain ⟨v, r, f1, f2, rfl, h2, h3, rfl⟩ := h
    simp [h3.length]
end

/-- what a def's run started from: K, the heap, what was frozen, what the arguments own -/
structure Cb where
  K : PySem.W.Frag
  H0 : Hp
  F0 : Hp
  A0 : List Addr
/-- may be written -/
def Cb.O (C : Cb) (a : Addr) : Prop := a ∈ C.A0 ∨ C.H0 a = none ∨ ∃ xs, C.H0 a = some (.tup xs)

/-- THE STATE of a frame -/
structure SR (C : Cb) (F : Hp) (ρ : Env) (σ : L2.St) (H : Hp) : Prop where
  le : Same F H
  f0 : Same C.F0 F
  keep : ∀ a o, C.H0 a = some o → a ∉ C.A0 → H a = some o
  fo : ∀ a, F a ≠ none → C.F0 a ≠ none ∨ C.O a
  len : ρ.length = σ.length
  own : ∃ fp : Nat → List Addr, (∀ i l, ρ[i]? = some (some l) → ∃ v, σ[i]? = some (some v) ∧ RepL C.K F H l v (fp i) ∧ (fp i).Nodup ∧ ∀ a ∈ fp i, F a = none ∧ C.O a) ∧
    ∀ i j l m, i ≠ j → ρ[i]? = some (some l) → ρ[j]? = some (some m) → ∀ a ∈ fp i, a ∉ fp j

section
variable {C : Cb} {F F' H H' : Hp} {ρ : Env} {σ : L2.St}
theorem SR.fresh (s : SR C F ρ σ H) {p : Addr} (n : H p = none) : C.O p := by
  by_cases hp : p ∈ C.A0
  · exact .inl hp
  · refine .inr (.inl ?_)
    cases e : C.H0 p with
    | none => rfl
    | some o => rw [s.keep p o e hp] at n; cases n
/-- a tuple's object -/
theorem SR.oTup (s : SR C F ρ σ H) {p : Addr} {xs : List V} (n : H p = some (.tup xs)) : C.O p := by
  by_cases hp : p ∈ C.A0
  · exact .inl hp
  · refine .inr ?_
    cases e : C.H0 p with
    | none => exact .inl rfl
    | some o =>
      have := s.keep p o e hp
      rw [n] at this
      cases this
      exact .inr ⟨xs, rfl⟩
/-- .. is nothing of our own -/
theorem RepL.noTup {K : PySem.W.Frag} {F H : Hp} : ∀ {l : LV} {v : V} {fp : List Addr}, RepL K F H l v fp → ∀ a ∈ fp, ∀ xs, H a ≠ some (.tup xs) := by
  intro l
  refine LV.rec (motive_1 := fun l => ∀ {v : V} {fp : List Addr}, RepL K F H l v fp → ∀ a ∈ fp, ∀ xs, H a ≠ some (.tup xs)) (motive_2 := fun ls => ∀ {vs : List V} {fp : List Addr}, RepLs K F H ls vs fp → ∀ a ∈ fp, ∀ xs, H a ≠ some (.tup xs)) ?_ ?_ ?_ ?_ ?_ l
  · intro p v fp h a ha; rw [h.2] at ha; cases ha
  · intro p v fp h a ha xs e
    obtain ⟨b, h1, h2, rfl⟩ := h
    obtain rfl : a = b := by simpa using ha
    cases p with
    | lst l => obtain ⟨ys, h, _⟩ := h2; rw [e] at h; cases h
    | dK ks l => obtain ⟨ys, h, _⟩ := h2; rw [e] at h; cases h
    | dT ks l => obtain ⟨ys, h, _⟩ := h2; rw [e] at h; cases h
    | dX ks l => obtain ⟨bs, ys, h, _⟩ := h2; rw [e] at h; cases h
    | _ => exact False.elim h2
  · intro c ns ls ih v fp h a ha xs e
    obtain ⟨b, dx, vs, fr, h1, h2, h3, h4, h5, rfl⟩ := h
    rcases List.mem_cons.mp ha with rfl | ha
    · rw [e] at h2; cases h2
    · exact ih h5 a ha xs e
  · intro vs fp h a ha; rw [h.2] at ha; cases ha
  · intro l ls i1 i2 vs fp h a ha xs e
    obtain ⟨v, r, f1, f2, h1, h2, h3, rfl⟩ := h
    rcases List.mem_append.mp ha with ha | ha
    · exact i1 h2 a ha xs e
    · exact i2 h3 a ha xs e
theorem SR.fnone (s : SR C F ρ σ H) {p : Addr} (n : H p = none) : F p = none := s.le.free n
theorem same_updF (n : F p = none) : Same F (upd F p o) := fun b u q => by rw [upd_ne (ne_of_none q n)]; exact q
/-- a change of the heap that keeps what the names own -/
theorem SR.grow (s : SR C F ρ σ H) (e : Same F F') (le : Same F' H') (keep : ∀ a o, C.H0 a = some o → a ∉ C.A0 → H' a = some o) (fo : ∀ a, F' a ≠ none → F a ≠ none ∨ (C.O a ∧ H a = none))
    (k : ∀ a o, H a = some o → H' a = some o) : SR C F' ρ σ H' := by
  obtain ⟨fp, h1, h2⟩ := s.own
  refine ⟨le, s.f0.trans e, keep, fun a n => ?_, s.len, fp, fun i l hl => ?_, h2⟩
  · rcases fo a n with q | q
    · exact s.fo a q
    · exact .inr q.1
  · obtain ⟨v, hv, r, nd, q⟩ := h1 i l hl
    refine ⟨v, hv, r.frame e fun a ha => ?_, nd, fun a ha => ⟨?_, (q a ha).2⟩⟩
    · obtain ⟨o, ho⟩ := r.there a ha
      rw [k a o ho, ho]
    · cases z : F' a with
      | none => rfl
      | some o =>
        obtain ⟨o', ho⟩ := r.there a ha
        rcases fo a (by rw [z]; exact fun w => nomatch w) with w | w
        · exact absurd (q a ha).1 w
        · rw [ho] at w; cases w.2
/-- a new object, frozen at once -/
theorem SR.alloc (s : SR C F ρ σ H) {p : Addr} (n : H p = none) (o : HO) : SR C (upd F p o) ρ σ (upd H p o) := by
  have e : Same F (upd F p o) := same_updF (s.fnone n)
  refine s.grow e (fun b u q => ?_) (fun a u h1 h2 => ?_) (fun a q => ?_) (fun a u q => ?_)
  · by_cases hb : b = p
    · subst hb; rw [upd_same] at q ⊢; exact q
    · rw [upd_ne hb] at q ⊢; exact s.le b u q
  · have := s.keep a u h1 h2
    rw [upd_ne (ne_of_none this n)]; exact this
  · by_cases ha : a = p
    · subst ha; exact .inr ⟨s.fresh n, n⟩
    · rw [upd_ne ha] at q; exact .inl q
  · rw [upd_ne (ne_of_none q n)]; exact q
/-- a new object, not frozen -/
theorem SR.allocH (s : SR C F ρ σ H) {p : Addr} (n : H p = none) (o : HO) : SR C F ρ σ (upd H p o) := by
  refine s.grow (Same.refl F) (fun b u q => ?_) (fun a u h1 h2 => ?_) (fun a q => .inl q) (fun a u q => ?_)
  · rw [upd_ne (ne_of_none (s.le b u q) n)]; exact s.le b u q
  · have := s.keep a u h1 h2
    rw [upd_ne (ne_of_none this n)]; exact this
  · rw [upd_ne (ne_of_none q n)]; exact q
theorem SR.get (s : SR C F ρ σ H) {i : Nat} {l : LV} (h : ρ[i]? = some (some l)) : ∃ v fp, σ[i]? = some (some v) ∧ RepL C.K F H l v fp := by
  obtain ⟨fp, h1, h2⟩ := s.own
  obtain ⟨v, hv, r, _⟩ := h1 i l h
  exact ⟨v, _, hv, r⟩
theorem SR.fro (s : SR C F ρ σ H) {i : Nat} {p : PV} (h : ρ[i]? = some (some (.fro p))) : ∃ v, σ[i]? = some (some v) ∧ Rep C.K F p v := by
  obtain ⟨v, fp, hv, r⟩ := s.get h
  exact ⟨v, hv, r.1⟩
theorem SR.ownAt (s : SR C F ρ σ H) {i : Nat} {p : PV} (h : ρ[i]? = some (some (.own p))) : ∃ a, σ[i]? = some (some (.ref a)) ∧ OwnAt C.K F H a p ∧ F a = none ∧ C.O a := by
  obtain ⟨fp, h1, h2⟩ := s.own
  obtain ⟨v, hv, ⟨a, rfl, oa, e⟩, _, q⟩ := h1 i _ h
  have := q a (by rw [e]; simp)
  exact ⟨a, hv, oa, this.1, this.2⟩
theorem set_get {α : Type} {l : List α} {i j : Nat} {x y : α} (h : (l.set i x)[j]? = some y) : (i = j ∧ x = y ∧ i < l.length) ∨ (i ≠ j ∧ l[j]? = some y) := by
  by_cases e : i = j
  · subst e
    by_cases hi : i < l.length
    · rw [List.getElem?_set_self hi] at h; exact .inl ⟨rfl, Option.some.inj h, hi⟩
    · rw [List.getElem?_eq_none (by simpa using hi)] at h; cases h
  · rw [List.getElem?_set_ne e] at h; exact .inr ⟨e, h⟩
/-- a slot forgotten (in the state of the values) -/
theorem SR.clear (s : SR C F ρ σ H) (i : Nat) (x : Option V) : SR C F (ρ.set i none) (σ.set i x) H := by
  obtain ⟨fp, h1, h2⟩ := s.own
  refine ⟨s.le, s.f0, s.keep, s.fo, by simp [s.len], fp, fun j l hl => ?_, fun j k l m hjk hl hm => ?_⟩
  · rcases set_get hl with ⟨_, q, _⟩ | ⟨q, hl⟩
    · cases q
    · rw [List.getElem?_set_ne q]
      exact h1 j l hl
  · rcases set_get hl with ⟨_, q, _⟩ | ⟨_, hl⟩
    · cases q
    rcases set_get hm with ⟨_, q, _⟩ | ⟨_, hm⟩
    · cases q
    exact h2 j k l m hjk hl hm
/-- one more value at hand, frozen -/
theorem SR.push (s : SR C F ρ σ H) {p : PV} {v : V} (r : Rep C.K F p v) : SR C F (some (.fro p) :: ρ) (some v :: σ) H := by
  obtain ⟨fp, h1, h2⟩ := s.own
  refine ⟨s.le, s.f0, s.keep, s.fo, by simp [s.len], fun i => match i with | 0 => [] | i + 1 => fp i, fun j l hl => ?_, fun j k l m hjk hl hm => ?_⟩
  · cases j with
    | zero =>
      simp only [List.getElem?_cons_zero, Option.some.injEq] at hl
      subst hl
      exact ⟨v, rfl, ⟨r, rfl⟩, List.nodup_nil, fun a ha => nomatch ha⟩
    | succ j => exact h1 j l (by simpa using hl)
  · cases j with
    | zero => exact fun a ha => nomatch ha
    | succ j =>
      cases k with
      | zero => exact fun a ha hb => nomatch hb
      | succ k => exact h2 j k l m (fun e => hjk (by rw [e])) (by simpa using hl) (by simpa using hm)
/-- .. a new object of our own -/
theorem SR.pushNew (s : SR C F ρ σ H) {a : Addr} {o : HO} (n : H a = none) {p : PV} (r : OwnAt C.K F (upd H a o) a p) : SR C F (some (.own p) :: ρ) (some (.ref a) :: σ) (upd H a o) := by
  have s' := s.allocH n o
  obtain ⟨fp, h1, h2⟩ := s.own
  have no : ∀ j l, ρ[j]? = some (some l) → a ∉ fp j := fun j l hl ha => by
    obtain ⟨v, _, r, _⟩ := h1 j l hl
    obtain ⟨u, hu⟩ := r.there a ha
    rw [n] at hu; cases hu
  refine ⟨s'.le, s.f0, s'.keep, s.fo, by simp [s.len], fun i => match i with | 0 => [a] | i + 1 => fp i, fun j l hl => ?_, fun j k l m hjk hl hm => ?_⟩
  · cases j with
    | zero =>
      simp only [List.getElem?_cons_zero, Option.some.injEq] at hl
      subst hl
      refine ⟨.ref a, rfl, ⟨a, rfl, r, rfl⟩, by simp, fun b hb => ?_⟩
      obtain rfl : b = a := by simpa using hb
      exact ⟨s.fnone n, s.fresh n⟩
    | succ j =>
      obtain ⟨v, hv, r, nd, q⟩ := h1 j l (by simpa using hl)
      refine ⟨v, by simpa using hv, r.frame (Same.refl _) fun b hb => ?_, nd, q⟩
      exact upd_ne fun e => no j l (by simpa using hl) (e ▸ hb)
  · cases j with
    | zero =>
      cases k with
      | zero => exact absurd rfl hjk
      | succ k =>
        intro b hb hb2
        obtain rfl : b = a := by simpa using hb
        exact no k m (by simpa using hm) hb2
    | succ j =>
      cases k with
      | zero =>
        intro b hb hb2
        obtain rfl : b = a := by simpa using hb2
        exact no j l (by simpa using hl) hb
      | succ k => exact h2 j k l m (fun e => hjk (by rw [e])) (by simpa using hl) (by simpa using hm)
theorem SR.pop {x : Option LV} {y : Option V} (s : SR C F (x :: ρ) (y :: σ) H) : SR C F ρ σ H := by
  obtain ⟨fp, h1, h2⟩ := s.own
  exact ⟨s.le, s.f0, s.keep, s.fo, by have := s.len; simpa using this, fun i => fp (i + 1), fun j l hl => h1 (j + 1) l (by simpa using hl), fun j k l m hjk hl hm => h2 (j + 1) (k + 1) l m (by omega) (by simpa using hl) (by simpa using hm)⟩
/-- the value at hand goes to a slot -/
theorem SR.put {l : LV} {v : V} (s : SR C F (some l :: ρ) (some v :: σ) H) (i : Nat) : SR C F (ρ.set i (some l)) (σ.set i (some v)) H := by
  obtain ⟨fp, h1, h2⟩ := s.own
  have hlen : ρ.length = σ.length := by have := s.len; simpa using this
  refine ⟨s.le, s.f0, s.keep, s.fo, by simp [hlen], fun j => if j = i then fp 0 else fp (j + 1), fun j m hm => ?_, fun j k m m' hjk hm hm' => ?_⟩
  · rcases set_get hm with ⟨rfl, q, hi⟩ | ⟨q, hm⟩
    · cases q
      (try dsimp only); rw [if_pos rfl, List.getElem?_set_self (by omega)]
      exact h1 0 l rfl
    · (try dsimp only); rw [if_neg (Ne.symm q), List.getElem?_set_ne q]
      exact h1 (j + 1) m (by simpa using hm)
  · rcases set_get hm with ⟨rfl, q, hi⟩ | ⟨q, hm⟩
    · cases q
      rcases set_get hm' with ⟨e, _, _⟩ | ⟨q', hm'⟩
      · exact absurd e hjk
      · (try dsimp only); rw [if_pos rfl, if_neg (Ne.symm q')]
        exact h2 0 (k + 1) l m' (by omega) rfl (by simpa using hm')
    · (try dsimp only); rw [if_neg (Ne.symm q)]
      rcases set_get hm' with ⟨rfl, q', _⟩ | ⟨q', hm'⟩
      · cases q'
        (try dsimp only); rw [if_pos rfl]
        exact h2 (j + 1) 0 m l (by omega) (by simpa using hm) rfl
      · (try dsimp only); rw [if_neg (Ne.symm q')]
        exact h2 (j + 1) (k + 1) m m' (by omega) (by simpa using hm) (by simpa using hm')
theorem SR.setFro (s : SR C F ρ σ H) {p : PV} {v : V} (r : Rep C.K F p v) (i : Nat) : SR C F (ρ.set i (some (.fro p))) (σ.set i (some v)) H := (s.push r).put i
/-- what a name owns is frozen -/
theorem SR.freeze (s : SR C F ρ σ H) {i : Nat} {p : PV} (h : ρ[i]? = some (some (.own p))) : ∃ a F', σ[i]? = some (some (.ref a)) ∧ Same F F' ∧ SR C F' (ρ.set i (some (.fro p))) σ H ∧ Rep C.K F' p (.ref a) := by
  obtain ⟨fp, h1, h2⟩ := s.own
  obtain ⟨v, hv, ⟨a, rfl, oa, e⟩, nd, q⟩ := h1 i _ h
  obtain ⟨o, ho⟩ := oa.some
  obtain ⟨na, oA⟩ := q a (by rw [e]; simp)
  have sm : Same F (upd F a o) := same_updF na
  have rp := oa.repF ho na
  refine ⟨a, upd F a o, hv, sm, ⟨fun b u z => ?_, s.f0.trans sm, s.keep, fun b z => ?_, by simp [s.len], fun j => if j = i then [] else fp j, fun j l hl => ?_, fun j k l m hjk hl hm => ?_⟩, rp⟩
  · by_cases hb : b = a
    · subst hb; rw [upd_same] at z; rw [ho]; exact z
    · rw [upd_ne hb] at z; exact s.le b u z
  · by_cases hb : b = a
    · subst hb; exact .inr oA
    · rw [upd_ne hb] at z; exact s.fo b z
  · rcases set_get hl with ⟨rfl, z, hi⟩ | ⟨z, hl⟩
    · cases z
      (try dsimp only); rw [if_pos rfl]
      exact ⟨.ref a, hv, ⟨rp, rfl⟩, List.nodup_nil, fun b hb => nomatch hb⟩
    · (try dsimp only); rw [if_neg (Ne.symm z)]
      obtain ⟨v, hv, r, nd, q⟩ := h1 j l hl
      refine ⟨v, hv, r.frame sm fun _ _ => rfl, nd, fun b hb => ⟨?_, (q b hb).2⟩⟩
      rw [upd_ne fun w => h2 j i l _ (Ne.symm z) hl h b hb (by rw [e, w]; simp)]
      exact (q b hb).1
  · rcases set_get hl with ⟨rfl, z, hi⟩ | ⟨z, hl⟩
    · (try dsimp only); rw [if_pos rfl]; exact fun b hb => nomatch hb
    · (try dsimp only); rw [if_neg (Ne.symm z)]
      rcases set_get hm with ⟨rfl, z', hi⟩ | ⟨z', hm⟩
      · (try dsimp only); rw [if_pos rfl]; exact fun b _ hb => nomatch hb
      · (try dsimp only); rw [if_neg (Ne.symm z')]; exact h2 j k l m hjk hl hm
/-- our own: handed to us or new -/
theorem SR.oOwn (s : SR C F ρ σ H) {l : LV} {v : V} {fp : List Addr} {a : Addr} (r : RepL C.K F H l v fp) (ha : a ∈ fp) (o : C.O a) : a ∈ C.A0 ∨ C.H0 a = none := by
  rcases o with o | o | ⟨xs, o⟩
  · exact .inl o
  · exact .inr o
  · by_cases hA : a ∈ C.A0
    · exact .inl hA
    · exact absurd (s.keep a _ o hA) (r.noTup a ha xs)
/-- a tuple that is tracked is frozen -/
theorem SR.freezeT (s : SR C F ρ σ H) {b : Addr} {xs : List V} (hb : H b = some (.tup xs)) : ∃ F', Same F F' ∧ SR C F' ρ σ H ∧ F' b = some (.tup xs) := by
  by_cases n : F b = none
  case neg =>
    refine ⟨F, Same.refl F, s, ?_⟩
    cases z : F b with
    | none => exact absurd z n
    | some o =>
      have := s.le b o z
      rw [hb] at this
      exact this.symm
  have sm : Same F (upd F b (.tup xs)) := same_updF n
  obtain ⟨fp, h1, h2⟩ := s.own
  refine ⟨_, sm, ⟨fun c u z => ?_, s.f0.trans sm, s.keep, fun c z => ?_, s.len, fp, fun i l hl => ?_, h2⟩, upd_same⟩
  · by_cases hc : c = b
    · subst hc; rw [upd_same] at z; rw [hb]; exact z
    · rw [upd_ne hc] at z; exact s.le c u z
  · by_cases hc : c = b
    · subst hc; exact .inr (s.oTup hb)
    · rw [upd_ne hc] at z; exact s.fo c z
  · obtain ⟨v, hv, r, nd, q⟩ := h1 i l hl
    refine ⟨v, hv, r.frame sm fun _ _ => rfl, nd, fun c hc => ⟨?_, (q c hc).2⟩⟩
    rw [upd_ne]
    · exact (q c hc).1
    · intro w
      subst w
      exact r.noTup c hc xs hb
/-- what a name owns is written -/
theorem SR.write (s : SR C F ρ σ H) {i : Nat} {p p' : PV} {a : Addr} {o : HO} (h : ρ[i]? = some (some (.own p))) (hσ : σ[i]? = some (some (.ref a))) (r : OwnAt C.K F (upd H a o) a p') : SR C F (ρ.set i (some (.own p'))) σ (upd H a o) := by
  obtain ⟨fp, h1, h2⟩ := s.own
  obtain ⟨v, hv, ⟨a', rfl, oa, e⟩, nd, q⟩ := h1 i _ h
  rw [hσ] at hv; cases hv
  obtain ⟨na, oA⟩ := q a (by rw [e]; simp)
  refine ⟨fun b u z => ?_, s.f0, fun b u z hb => ?_, s.fo, by simp [s.len], fp, fun j l hl => ?_, fun j k l m hjk hl hm => ?_⟩
  · rw [upd_ne (ne_of_none z na)]; exact s.le b u z
  · have nb : b ≠ a := fun w => by
      subst w
      rcases oA with w | w | ⟨ys, w⟩
      · exact hb w
      · rw [z] at w; cases w
      · exact RepL.noTup (l := .own p) (v := .ref b) (fp := fp i) ⟨b, rfl, oa, e⟩ b (by rw [e]; simp) ys (s.keep b _ w hb)
    rw [upd_ne nb]; exact s.keep b u z hb
  · rcases set_get hl with ⟨rfl, z, hi⟩ | ⟨z, hl⟩
    · cases z
      exact ⟨.ref a, hσ, ⟨a, rfl, r, e⟩, nd, q⟩
    · obtain ⟨v, hv, r', nd', q'⟩ := h1 j l hl
      refine ⟨v, hv, r'.frame (Same.refl _) fun b hb => ?_, nd', q'⟩
      exact upd_ne fun w => h2 j i l _ (Ne.symm z) hl h b hb (by rw [e, w]; simp)
  · rcases set_get hl with ⟨rfl, z, hi⟩ | ⟨z, hl⟩
    · rcases set_get hm with ⟨z', _, _⟩ | ⟨z', hm⟩
      · exact absurd z' hjk
      · exact h2 i k _ m hjk h hm
    · rcases set_get hm with ⟨rfl, z', hi⟩ | ⟨z', hm⟩
      · exact h2 j i l _ hjk hl h
      · exact h2 j k l m hjk hl hm
/-- the value at hand is frozen, or a new object of our own: frozen now -/
theorem SR.popFro {p : PV} {v : V} (s : SR C F (some (.fro p) :: ρ) (some v :: σ) H) : SR C F ρ σ H ∧ Rep C.K F p v := by
  refine ⟨s.pop, ?_⟩
  obtain ⟨v', hv, r⟩ := s.fro (i := 0) rfl
  cases hv
  exact r
theorem SR.popOwn {p : PV} {v : V} (s : SR C F (some (.own p) :: ρ) (some v :: σ) H) : ∃ F', Same F F' ∧ SR C F' ρ σ H ∧ Rep C.K F' p v := by
  obtain ⟨a, F', hv, sm, s', r⟩ := s.freeze (i := 0) rfl
  cases hv
  exact ⟨F', sm, s'.pop, r⟩
end
end Br
/-! BrB: a small language, and what its terms compute over plain values. -/
namespace Br
open PySem PySem.Spec PyProof.Rows L2

inductive Op where
  | add | sub | mul | fdiv | mod | pow | neg
  | eq | ne | lt | le | gt | ge | isN | isNN | isB (b : Bool) | isNB (b : Bool) | inn | nin
  | len | sum | abs | int1 | str1 | tuple1 | list1 | dict1 | sorted | allL | anyL | min2 | max2 | min3 | max3 | minL | maxL
  | idx | slc (lo hi : Bool) | rev | dget | isTy (ts : List String) | values | dmod
  | lcnt | tcnt | lidx | bits | sortedD | minD | maxD | max2D | strD | valsL | valsS | minV (z : Int) | minT (z : Int) | sset | ssetT | lset | join | split | strip2 | intS | idxS | inS | dictT | addX | isEx (kn cs : List Str) | tupleX | idxT | dgetT | innT | ninT | sortT | slcX | lsetX
  deriving DecidableEq

/-- what a loop's or a comprehension's target is -/
inductive Tg where
  | one (i : Nat) | at (i : Nat) (k : Int) | atV (i j : Nat) | tup (ts : List Tg)

mutual
inductive Ex where
  | var (i : Nat) | cst (c : PV) | app (o : Op) (as : List Arg) | mth (o : Op) (a : Arg) (as : List Arg) | tup (es : List Ex) | lst (es : List Ex) | dnew
  | call (j : Nat) (as : List Arg) | and (a b : Ex) | or (a b : Ex) | not (a : Ex) | ite (c : Tst) (a b : Ex)
  | chain (o1 o2 : Op) (a b c : Ex) | chain3 (o1 o2 o3 : Op) (a b c d : Ex) | sl2 (a : Arg) (lo hi : Ex) | comp (s : Src) (t : Tg) (vs : List Nat) (c : List Tst) (e : Ex)
  | popE (i : Nat) (e : Ex) | popL (i : Nat) | dispV (i j : Nat) | callT (j : Nat) (as : List Arg) (k : Nat) (cs bs : List Arg) | callN (j : Nat) (as : List Arg) (t : Bool) (bs : List Arg) | xtup (es : List Ex) | dnewT | dnewX
  | sel (j1 j2 i : Nat) (as : List Arg)
  | mcall (j i : Nat) (c : Str) (ns : List Str) (as : List Arg) | make (j : Nat) (c : Str) (as : List Arg)
  | fld (i : Nat) (c : Str) (ns : List Str) (k : Nat) | fop (o : Op) (i : Nat) (c : Str) (ns : List Str) (k : Nat)
  | compK (i : Nat) (t : Tg) (vs : List Nat) (c : List Tst) (e : Ex) | compO (i : Nat) (t : Tg) (vs : List Nat) (c : List Tst) (e : Ex) | mvv (i : Nat) | disp1 (a b : Ex) | popD (i : Nat) (e : Ex)
  | frz (e : Ex) | ofld (i : Nat) (c : Str) (ns : List Str) (k : Nat) | fix (i : Nat) (c : Str) (ns : List Str) (k : Nat) (ix : Nat ⊕ Int) | mcallR (j i : Nat) (c : Str) (ns : List Str) (as : List Arg)
/-- an argument: a name's own object, or a value -/
inductive Arg where
  | ref (i : Nat) | val (e : Ex)
inductive Tst where
  | and (a b : Tst) | or (a b : Tst) | not (a : Tst) | e (x : Ex)
inductive Src where
  | seq (e : Ex) | seqS (e : Ex) | lock (i : Nat) (it : Bool) | rng1 (a : Ex) | rng2 (a b : Ex) | enum (e : Ex) | zip (a b : Ex) | rev (e : Ex)
end

inductive St where
  | set (i : Nat) (e : Ex) | unp (t : Tg) (e : Ex) | par (is : List Nat) (es : List Ex)
  | setIx (i : Nat) (k e : Ex) | app (i : Nat) (e : Ex) | ext (i : Nat) (e : Ex) | popA (i : Nat) (e : Ex) | insA (i : Nat) (k e : Ex)
  | ex (e : Ex) | ret (e : Ex) | retV (i : Nat) | retN
  | ite (c : Tst) (a b : List St) | whl (c : Tst) (b : List St) | for (s : Src) (t : Tg) (b : List St)
  | fset (i : Nat) (c : Str) (ns : List Str) (k : Nat) (e : Ex) | fnew (i : Nat) (c : Str) (ns : List Str) (f : Str) (e : Ex)
  | fsetIx (i : Nat) (c : Str) (ns : List Str) (k : Nat) (ix : Nat ⊕ Int) (e : Ex) | fappE (i : Nat) (c : Str) (ns : List Str) (k : Nat) (e : Ex) | fappV (i : Nat) (c : Str) (ns : List Str) (k j : Nat) | fappT (i : Nat) (c : Str) (ns : List Str) (k g : Nat)
  | brk | cont | pass | raise (c : Str) | tryx (b : List St) (x : Str) (i : Option Nat) (kn : List Str) (s : List St)

/-! ### outcomes -/
inductive ER (α : Type) where
  | ok (a : α) (ρ : Env) | ex (c : Str) (ρ : Env) | st
inductive CR where
  | ok (r : LV) (as : List LV) | ex (c : Str) (as : List LV) | st
inductive SO where
  | nx (ρ : Env) | rt (l : LV) (ρ : Env) | bk (ρ : Env) | ct (ρ : Env) | ex (c : Str) (ρ : Env) | st
/-- an argument: a value, or a name whose object is handed on -/
inductive AV where
  | val (p : PV) | ref (i : Nat)

def ER.bind {α β : Type} (r : ER α) (f : α → Env → ER β) : ER β := match r with
  | .ok a ρ => f a ρ
  | .ex c ρ => .ex c ρ
  | .st => .st
@[simp] theorem ER.bind_ok {α β : Type} (a : α) (ρ : Env) (f : α → Env → ER β) : (ER.ok a ρ).bind f = f a ρ := rfl
@[simp] theorem ER.bind_ex {α β : Type} (c : Str) (ρ : Env) (f : α → Env → ER β) : (ER.ex c ρ : ER α).bind f = .ex c ρ := rfl
@[simp] theorem ER.bind_st {α β : Type} (f : α → Env → ER β) : (ER.st : ER α).bind f = .st := rfl
def ER.of {α : Type} (o : Option α) (ρ : Env) : ER α := match o with
  | some a => .ok a ρ
  | none => .st
@[simp] theorem ER.of_some {α : Type} (a : α) (ρ : Env) : ER.of (some a) ρ = .ok a ρ := rfl
@[simp] theorem ER.of_none {α : Type} (ρ : Env) : (ER.of none ρ : ER α) = .st := rfl

def LV.pv : LV → Option PV
  | .fro p => some p
  | .own p => some p
  | .ins _ _ _ => none
def AV.pv (ρ : Env) : AV → Option PV
  | .val p => some p
  | .ref i => match ρ[i]? with
    | some (some l) => l.pv
    | _ => none
def AV.pvs (ρ : Env) : List AV → Option (List PV)
  | [] => some []
  | a :: as => match a.pv ρ, AV.pvs ρ as with
    | some p, some ps => some (p :: ps)
    | _, _ => none
def AV.lv (ρ : Env) : AV → Option LV
  | .val p => some (.fro p)
  | .ref i => match ρ[i]? with
    | some (some l) => some l
    | _ => none
def AV.lvs (ρ : Env) : List AV → Option (List LV)
  | [] => some []
  | a :: as => match a.lv ρ, AV.lvs ρ as with
    | some p, some ps => some (p :: ps)
    | _, _ => none
def AV.refs : List AV → List Nat
  | [] => []
  | .val _ :: as => AV.refs as
  | .ref i :: as => i :: AV.refs as
/-- the handed-on names' objects behind a call -/
def AV.back (ρ : Env) : List AV → Env → Env
  | .ref i :: as, some l :: ms => AV.back (ρ.set i (some l)) as ms
  | _ :: as, _ :: ms => AV.back ρ as ms
  | _, _ => ρ
def LV.isFro : LV → Bool
  | .fro _ => true
  | _ => false
/-- what was handed on, behind the call -/
def maskL : List LV → List LV → Env
  | l :: ls, l' :: ls' => (if l.isFro = true then none else some l') :: maskL ls ls'
  | _, _ => []

/-! ### data as the model compares it -/
mutual
def PV.toD : PV → PyData
  | .bl b => .bool b
  | .int i => .int i
  | .str x => .str x
  | .tup l => .tuple (PV.toDs l)
  | .xt l => .tuple (PV.toDs l)
  | .gt l => .tuple (PV.toDs l)
  | .lst l => .list (PV.toDs l)
  | _ => .none
def PV.toDs : List PV → List PyData
  | [] => []
  | p :: l => p.toD :: PV.toDs l
end
/-- data of depth below n -/
def PV.isD : Nat → PV → Bool
  | _, .non => true
  | _, .bl _ => true
  | _, .int _ => true
  | _, .str x => PyData.strOk x
  | n + 1, .tup l => l.all (PV.isD n)
  | n + 1, .xt l => l.all (PV.isD n)
  | n + 1, .gt l => l.all (PV.isD n)
  | n + 1, .lst l => l.all (PV.isD n)
  | _, _ => false
/-- .. all of whose tuples are any tuples -/
def PV.isT : Nat → PV → Bool
  | _, .non => true
  | _, .bl _ => true
  | _, .int _ => true
  | _, .str x => PyData.strOk x
  | n + 1, .tup l => l.all (PV.isT n)
  | n + 1, .lst l => l.all (PV.isT n)
  | _, _ => false
def eqP (a b : PV) : Bool := PyData.eqv a.toD b.toD
mutual
/-- < of ints, texts, tuples; none where it is not known -/
def ltP : PV → PV → Option Bool
  | .int a, .int b => some (decide (a < b))
  | .tup l, .tup m => ltPs l m
  | _, _ => none
def ltPs : List PV → List PV → Option Bool
  | [], [] => some false
  | [], _ :: _ => some true
  | _ :: _, [] => some false
  | x :: xs, y :: ys => match ltPs xs ys with
    | some r => if eqP x y = true then some r else ltP x y
    | none => none
end
def LIM : Nat := 1000000
def intsOf : List PV → Option (List Int)
  | [] => some []
  | .int i :: l => (intsOf l).map (i :: ·)
  | _ => none
def blsOf : List PV → Option (List Bool)
  | [] => some []
  | .bl i :: l => (blsOf l).map (i :: ·)
  | _ => none
@[simp] theorem intsOf_map (ns : List Int) : intsOf (ns.map PV.int) = some ns := by
  induction ns with
  | nil => rfl
  | cons n ns ih => simp [intsOf, ih]
@[simp] theorem blsOf_map (ns : List Bool) : blsOf (ns.map PV.bl) = some ns := by
  induction ns with
  | nil => rfl
  | cons n ns ih => simp [blsOf, ih]
def mulOk (i j : Int) : Prop := i.natAbs < 2 ^ 64 ∨ j.natAbs < 2 ^ 64 ∨ i.natAbs.log2 + j.natAbs.log2 < 4000000
instance (i j : Int) : Decidable (mulOk i j) := by unfold mulOk; infer_instance
def tyName : PV → Option String
  | .non => some "NoneType"
  | .bl _ => some "bool"
  | .int _ => some "int"
  | .str _ => some "str"
  | .tup _ => some "tuple"
  | .xt _ => some "tuple"
  | .gt _ => some "tuple"
  | .lst _ => some "list"
  | .dK _ _ => some "dict"
  | _ => none
def isTyP (c : String) (p : PV) : Option Bool := match tyName p with
  | some t => kitB t c
  | none => none
def isTys : List String → PV → Option Bool
  | [], _ => some false
  | t :: ts, p => match isTyP t p with
    | some true => some true
    | some false => isTys ts p
    | none => none
def cutP (l : List PV) (lo hi : Option Int) : List PV := (l.drop (HT.sIx l.length 0 lo)).take (HT.sIx l.length l.length hi - HT.sIx l.length 0 lo)
def insI (x : Int) : List Int → List Int
  | [] => [x]
  | y :: ys => if x ≤ y then x :: y :: ys else y :: insI x ys
def sortI : List Int → List Int
  | [] => []
  | x :: xs => insI x (sortI xs)
def keyP : PV → Option Key
  | .int i => some (.inl i)
  | .str x => some (.inr x)
  | _ => none
def keysT : List PV → Option (List Key)
  | [] => some []
  | p :: l => match keyP p, keysT l with
    | some k, some r => some (k :: r)
    | _, _ => none
def findK {κ : Type} [DecidableEq κ] (k : κ) : List κ → List PV → Option PV
  | c :: cs, v :: vs => if k = c then some v else findK k cs vs
  | _, _ => none
def hasK {κ : Type} [DecidableEq κ] (k : κ) (ks : List κ) : Bool := ks.any fun c => decide (c = k)
def putKs {κ : Type} [DecidableEq κ] (k : κ) : List κ → List κ
  | [] => [k]
  | c :: cs => if k = c then c :: cs else c :: putKs k cs
def putVs {κ : Type} [DecidableEq κ] (k : κ) (p : PV) : List κ → List PV → List PV
  | c :: cs, v :: vs => if k = c then p :: vs else v :: putVs k p cs vs
  | _, _ => [p]

def addP : List PV → Option PV
  | [.int a, .int b] => some (.int (a + b))
  | [.str a, .str b] => if a.length + b.length ≤ LIM then some (.str (a ++ b)) else none
  | [.lst a, .lst b] => if a.length + b.length ≤ LIM then some (.lst (a ++ b)) else none
  | [.tup a, .tup b] => if a.length + b.length ≤ LIM then some (.tup (a ++ b)) else none
  | [.xt a, .tup b] => if a ≠ [] ∧ b ≠ [] ∧ a.length + b.length ≤ LIM then some (.tup (a ++ b)) else none
  | [.tup a, .xt b] => if a ≠ [] ∧ b ≠ [] ∧ a.length + b.length ≤ LIM then some (.tup (a ++ b)) else none
  | [.xt a, .xt b] => if a ≠ [] ∧ b ≠ [] ∧ a.length + b.length ≤ LIM then some (.tup (a ++ b)) else none
  | _ => none
/-- .. of two tuples whose objects are known: so is the sum's -/
def addXP : List PV → Option PV
  | [.xt a, .xt b] => if a ≠ [] ∧ a.length + b.length ≤ LIM then some (.xt (a ++ b)) else none
  | _ => none
def subP : List PV → Option PV
  | [.int a, .int b] => some (.int (a - b))
  | _ => none
def mulP : List PV → Option PV
  | [.int a, .int b] => if mulOk a b then some (.int (a * b)) else none
  | [.str a, .int b] => if 2 ≤ b ∧ b ≤ 1000 ∧ 1 ≤ a.length ∧ a.length ≤ 1000 then some (.str ⟨(List.replicate b.toNat a.cps.toList).flatten.toArray⟩) else none
  | [.lst l, .int b] => if 0 ≤ b ∧ b ≤ LIM ∧ (l.length = 1 ∨ l.length * b.toNat ≤ LIM) then some (.lst (List.replicate b.toNat l).flatten) else none
  | [.tup l, .int b] => if 1 ≤ b ∧ b ≤ 1000 ∧ l ≠ [] ∧ l.length ≤ 1000 then some (.tup (List.replicate b.toNat l).flatten) else if 1 ≤ b ∧ b ≤ 1000000 ∧ l.length = 1 then some (.tup (List.replicate b.toNat l).flatten) else if b = 0 ∧ l ≠ [] then some (.tup []) else none
  | _ => none
def fdivP : List PV → Option PV
  | [.int a, .int b] => if 0 < b ∧ b.natAbs.log2 < 9000 then some (.int (a / b)) else if b < 0 ∧ b.natAbs.log2 < 9000 then some (.int (a.fdiv b)) else none
  | _ => none
def modP : List PV → Option PV
  | [.int a, .int b] => if 0 < b then some (.int (a % b)) else none
  | _ => none
def powP : List PV → Option PV
  | [.int a, .int b] => if 0 ≤ b ∧ b ≤ 1000000 ∧ a.natAbs < 2 ^ 64 then some (.int (a ^ b.toNat)) else none
  | _ => none
def negP : List PV → Option PV
  | [.int a] => some (.int (-a))
  | _ => none
/-- the number at a key -/
def iAt {κ : Type} [DecidableEq κ] (k : κ) : List κ → List Int → Option Int
  | c :: cs, v :: vs => if k = c then some v else iAt k cs vs
  | _, _ => none
/-- whether two dicts of ints are equal -/
def eqIK (ks : List Key) (ns : List Int) (qs : List Key) (ms : List Int) : Bool := decide (ks.length = qs.length) && ks.all fun k => decide (iAt k ks ns = iAt k qs ms)
def eqKP : PV → PV → Option PV
  | .dK ks vs, .dK qs ws => (intsOf vs).bind fun ns => (intsOf ws).map fun ms => .bl (eqIK ks ns qs ms)
  | .non, .dK _ _ => some (.bl false)
  | _, _ => none
def eqOP : List PV → Option PV
  | [.str a, .str b] => some (.bl (decide (a = b)))
  | [a, b] => if a.isD 60 = true ∧ b.isD 60 = true then some (.bl (eqP a b)) else eqKP a b
  | _ => none
def neOP : List PV → Option PV
  | [.str a, .str b] => some (.bl (!decide (a = b)))
  | [a, b] => if a.isD 60 = true ∧ b.isD 60 = true then some (.bl (!eqP a b)) else none
  | _ => none
def ltOP : List PV → Option PV
  | [.int a, .int b] => some (.bl (decide (a < b)))
  | [.tup a, .tup b] => if (PV.tup a).isD 60 = true ∧ (PV.tup b).isD 60 = true then (ltPs a b).map .bl else none
  | _ => none
/-- <= of rows of ints -/
def leI : List Int → List Int → Bool
  | [], _ => true
  | _ :: _, [] => false
  | x :: xs, y :: ys => if x = y then leI xs ys else decide (x ≤ y)
def leTP (a b : List PV) : Option PV := (intsOf a).bind fun ns => (intsOf b).map fun ms => .bl (leI ns ms)
def leOP : List PV → Option PV
  | [.int a, .int b] => some (.bl (decide (a ≤ b)))
  | [.tup a, .tup b] => leTP a b
  | _ => none
def gtOP : List PV → Option PV
  | [.int a, .int b] => some (.bl (decide (b < a)))
  | _ => none
def geTP (a b : List PV) : Option PV := (intsOf a).bind fun ns => (intsOf b).map fun ms => .bl (leI ms ns)
def geOP : List PV → Option PV
  | [.int a, .int b] => some (.bl (decide (b ≤ a)))
  | [.tup a, .tup b] => geTP a b
  | _ => none
def PV.isNon : PV → Bool
  | .non => true
  | _ => false
def isNP : List PV → Option PV
  | [p] => some (.bl p.isNon)
  | _ => none
def isNNP : List PV → Option PV
  | [p] => some (.bl (!p.isNon))
  | _ => none
def isBP (b : Bool) : List PV → Option PV
  | [.bl c] => some (.bl (c == b))
  | _ => none
def isNBP (b : Bool) : List PV → Option PV
  | [.bl c] => some (.bl (!(c == b)))
  | _ => none
def inP : List PV → Option PV
  | [a, .lst l] => if a.isD 60 = true ∧ (PV.lst l).isD 60 = true then some (.bl (l.any fun z => eqP z a)) else none
  | [a, .tup l] => if a.isD 60 = true ∧ (PV.tup l).isD 60 = true then some (.bl (l.any fun z => eqP z a)) else none
  | [.int i, .dK ks _] => some (.bl (hasK (Sum.inl i) ks))
  | [.str i, .dK ks _] => some (.bl (hasK (Sum.inr i) ks))
  | _ => none
def ninP : List PV → Option PV
  | [a, .lst l] => if a.isD 60 = true ∧ (PV.lst l).isD 60 = true then some (.bl (!l.any fun z => eqP z a)) else none
  | [a, .tup l] => if a.isD 60 = true ∧ (PV.tup l).isD 60 = true then some (.bl (!l.any fun z => eqP z a)) else none
  | [.int i, .dK ks _] => some (.bl (!hasK (Sum.inl i) ks))
  | [.str i, .dK ks _] => some (.bl (!hasK (Sum.inr i) ks))
  | _ => none
def lenP : List PV → Option PV
  | [.lst l] => some (.int l.length)
  | [.tup l] => some (.int l.length)
  | [.dK ks _] => some (.int ks.length)
  | [.str x] => if x.length ≤ LIM then some (.int x.length) else none
  | _ => none
def sumP : List PV → Option PV
  | [.lst l] => (intsOf l).map fun ns => .int ns.sum
  | [.tup l] => (intsOf l).map fun ns => .int ns.sum
  | _ => none
def absP : List PV → Option PV
  | [.int a] => some (.int (if a < 0 then -a else a))
  | _ => none
def PV.isSeq : PV → Bool
  | .lst _ => true
  | .tup _ => true
  | _ => false
def int1P : List PV → Option PV
  | [.int a] => some (.int a)
  | [.bl b] => some (.int (if b = true then 1 else 0))
  | _ => none
def str1P : List PV → Option PV
  | [.int a] => if a.natAbs.log2 < 1920 then some (.str (toString a)) else none
  | _ => none
/-- the numbers of a dict of ints -/
def intD : List Key → List PV → Option (List (Int × Int))
  | [], [] => some []
  | .inl k :: ks, .int v :: l => (intD ks l).map fun r => (k, v) :: r
  | _, _ => none
def shownK (qs : List (Int × Int)) : PyData := .dict (qs.map fun q => (.int q.1, .int q.2))
def strKP (ks : List Key) (l : List PV) : Option PV := match intD ks l with
  | some qs => if (shownK qs).showable = true ∧ (shownK qs).shown.length ≤ LIM then some (.str (shownK qs).shown) else none
  | none => none
def str0P : PV → Option PV
  | .dK ks l => strKP ks l
  | .non => some (.str "None")
  | .bl b => some (.str (if b = true then "True" else "False"))
  | .str x => some (.str x)
  | _ => none
/-- str(x): an int, or data -/
def strDP (ps : List PV) : Option PV := match str1P ps with
  | some r => some r
  | none => match ps with
    | [p] => if p.isSeq = true ∧ p.isD 60 = true ∧ p.toD.showable = true ∧ p.toD.shown.length ≤ LIM then some (.str p.toD.shown) else str0P p
    | _ => none
/-- list(d.values()), sum(d.values()) -/
def valsLP : List PV → Option PV
  | [.dK _ l] => some (.lst l)
  | _ => none
def valsSP : List PV → Option PV
  | [.dK _ l] => (intsOf l).map fun ns => .int ns.sum
  | _ => none
/-- the least, z where there is none -/
def minDf (z : Int) : List Int → Int
  | [] => z
  | n :: r => r.foldl (fun a y => if y < a then y else a) n
def minVP (z : Int) : List PV → Option PV
  | [.dK _ l] => (intsOf l).map fun ns => .int (minDf z ns)
  | _ => none
def minTP (z : Int) : List PV → Option PV
  | [.tup l] => (intsOf l).map fun ns => .int (minDf z ns)
  | _ => none
/-- sorted(set(x)) -/
def insU (x : Int) : List Int → List Int
  | [] => [x]
  | y :: ys => if x < y then x :: y :: ys else if x = y then y :: ys else y :: insU x ys
def sortU : List Int → List Int
  | [] => []
  | x :: xs => insU x (sortU xs)
def ssetP : List PV → Option PV
  | [.lst l] => (intsOf l).bind fun ns => if ns.length < 4000 then some (.lst ((sortU ns).map .int)) else none
  | [.tup l] => (intsOf l).bind fun ns => if ns.length < 4000 then some (.lst ((sortU ns).map .int)) else none
  | _ => none
def lsetP : List PV → Option PV
  | [.lst l] => (intsOf l).bind fun ns => if ns.length < 4000 then some (.int (sortU ns).length) else none
  | _ => none
/-- sorted(set(x)), x a list of tuples of ints -/
def ltR : List Int → List Int → Bool
  | [], [] => false
  | [], _ :: _ => true
  | _ :: _, [] => false
  | x :: xs, y :: ys => if x = y then ltR xs ys else decide (x < y)
def insR (x : List Int) : List (List Int) → List (List Int)
  | [] => [x]
  | y :: ys => if x = y then y :: ys else if ltR x y = true then x :: y :: ys else y :: insR x ys
def sortR : List (List Int) → List (List Int)
  | [] => []
  | x :: xs => insR x (sortR xs)
def rowsP : List PV → Option (List (List Int))
  | [] => some []
  | p :: l => match p with
    | .tup m => match intsOf m, rowsP l with
      | some k, some r => some (k :: r)
      | _, _ => none
    | _ => none
/-- rows that are known or plain tuples of ints -/
def rowsX : List PV → Option (List (List Int))
  | [] => some []
  | p :: l => match p with
    | .tup m => match intsOf m, rowsX l with
      | some k, some r => some (k :: r)
      | _, _ => none
    | .xt m => match intsOf m, rowsX l with
      | some k, some r => some (k :: r)
      | _, _ => none
    | _ => none
def lsetXP : List PV → Option PV
  | [.lst l] => (rowsX l).bind fun rs => if rs.length < 64 then some (.int (sortR rs).length) else none
  | _ => none
def ssetTP : List PV → Option PV
  | [.lst l] => (rowsP l).bind fun rs => if rs.length < 64 ∧ rs.all (fun r => !r.isEmpty) = true then some (.lst ((sortR rs).map fun r => .tup (r.map .int))) else none
  | _ => none
/-! texts -/
def strsOf : List PV → Option (List Str)
  | [] => some []
  | .str x :: l => (strsOf l).map (x :: ·)
  | _ => none
def joinP : List PV → Option PV
  | [.str a, .lst l] => (strsOf l).bind fun ys => if (ys.map (·.length)).sum + ys.length * a.length ≤ LIM then some (.str (Txt.join a ys)) else none
  | _ => none
def splitP : List PV → Option PV
  | [.str a, .str b] => if (b.length == 0) = false ∧ a.length + 2 ≤ LIM then some (.lst ((Txt.split a b).map .str)) else none
  | _ => none
def strip2P : List PV → Option PV
  | [.str a, .str b] => if a.length ≤ LIM then some (.str (Txt.stripChars a b)) else none
  | _ => none
def intSP : List PV → Option PV
  | [.str a] => if a.length ≤ 640 then (PySem.intText? a).map .int else none
  | _ => none
def idxSP : List PV → Option PV
  | [.str z, .int i] => if z.length ≤ LIM then (L2.atI z.cps.toList i).map fun c => .str ⟨#[c]⟩ else none
  | _ => none
def oneC (a : Str) : Option Nat := match a.cps.toList with
  | [c] => some c
  | _ => none
def inSP : List PV → Option PV
  | [.str a, .str z] => (oneC a).map fun c => .bl (decide (c ∈ z.cps.toList))
  | _ => none
def signsP (x : Str) : List PV := x.cps.toList.map fun c => .str ⟨#[c]⟩
def tuple1P : List PV → Option PV
  | [.lst l] => some (.tup l)
  | [.tup l] => some (.tup l)
  | [.xt l] => some (.xt l)
  | _ => none
def list1P : List PV → Option PV
  | [.lst l] => some (.lst l)
  | [.tup l] => some (.lst l)
  | _ => none
def intKeys : List Key → Option (List Int)
  | [] => some []
  | .inl i :: l => (intKeys l).map (i :: ·)
  | _ => none
def sortedP : List PV → Option PV
  | [.lst l] => (intsOf l).map fun ns => .lst ((sortI ns).map .int)
  | [.tup l] => (intsOf l).map fun ns => .lst ((sortI ns).map .int)
  | [.dK ks _] => if ks.length < 64 then (intKeys ks).map fun ns => .lst ((sortI ns).map .int) else none
  | _ => none
def allLP : List PV → Option PV
  | [.lst l] => (blsOf l).map fun ns => .bl (ns.all id)
  | _ => none
def anyLP : List PV → Option PV
  | [.lst l] => (blsOf l).map fun ns => .bl (ns.any id)
  | _ => none
def min2P : List PV → Option PV
  | [.int a, .int b] => some (.int (if b < a then b else a))
  | _ => none
def max2P : List PV → Option PV
  | [.int a, .int b] => some (.int (if b > a then b else a))
  | _ => none
def mx2 (a b : Int) : Int := if b > a then b else a
def mn2 (a b : Int) : Int := if b < a then b else a
def min3P : List PV → Option PV
  | [.int a, .int b, .int c] => some (.int (mn2 (mn2 a b) c))
  | _ => none
def max3P : List PV → Option PV
  | [.int a, .int b, .int c] => some (.int (mx2 (mx2 a b) c))
  | _ => none
def minI : List Int → Option Int
  | [] => none
  | n :: ns => some (ns.foldl (fun a b => if b < a then b else a) n)
def maxI : List Int → Option Int
  | [] => none
  | n :: ns => some (ns.foldl (fun a b => if b > a then b else a) n)
def minLP : List PV → Option PV
  | [.lst l] => (intsOf l).bind fun ns => (minI ns).map .int
  | _ => none
def maxLP : List PV → Option PV
  | [.lst l] => (intsOf l).bind fun ns => (maxI ns).map .int
  | _ => none
def ltD (a b : PV) : Bool := PySem.W.dataLt a.toD b.toD
def alikeP (a b : PV) : Bool := PySem.W.alike a.toD b.toD
def PV.tup1 : PV → Bool
  | .tup (_ :: _) => true
  | .xt (_ :: _) => true
  | _ => false
def PV.noTup : PV → Bool
  | .tup _ => false
  | .xt _ => false
  | .gt _ => false
  | .non => false
  | _ => true
def PV.noNon : PV → Bool
  | .non => false
  | _ => true
def sortOk (l : List PV) : Bool := (PV.lst l).isD 60 && (l.all fun a => l.all fun b => alikeP a b) && (l.all PV.tup1 || l.all PV.noTup) && decide (l.length ≤ LIM)
def minOk (l : List PV) : Bool := (PV.lst l).isT 60 && (l.all fun a => l.all fun b => alikeP a b) && l.all PV.noNon
def leD (a b : PV) : Bool := !ltD b a
def sortD (l : List PV) : List PV := l.mergeSort leD
def sortX (l : List PV) : Option PV := match l with
  | [x] => some (.lst [x])
  | l => if sortOk l = true then some (.lst (sortD l)) else none
def sortedDP (ps : List PV) : Option PV := match sortedP ps with
  | some r => some r
  | none => match ps with
    | [.lst l] => sortX l
    | _ => none
def minDP (ps : List PV) : Option PV := match minLP ps with
  | some r => some r
  | none => match ps with
    | [.lst (x :: l)] => if minOk (x :: l) = true then some (l.foldl (fun a y => if ltD y a = true then y else a) x) else none
    | [.tup (x :: l)] => if minOk (x :: l) = true then some (l.foldl (fun a y => if ltD y a = true then y else a) x) else none
    | _ => none
def max2DP : List PV → Option PV
  | [.tup a, .tup b] => if minOk [.tup a, .tup b] = true then some (if ltD (.tup a) (.tup b) = true then .tup b else .tup a) else none
  | _ => none
def maxDP (ps : List PV) : Option PV := match maxLP ps with
  | some r => some r
  | none => match ps with
    | [.lst (x :: l)] => if minOk (x :: l) = true then some (l.foldl (fun a y => if ltD a y = true then y else a) x) else none
    | [.tup (x :: l)] => if minOk (x :: l) = true then some (l.foldl (fun a y => if ltD a y = true then y else a) x) else none
    | _ => none
def idxP : List PV → Option PV
  | [.lst l, .int i] => atI l i
  | [.tup l, .int i] => atI l i
  | [.dK ks vs, .int k] => findK (Sum.inl k) ks vs
  | [.dK ks vs, .str k] => findK (Sum.inr k) ks vs
  | _ => none
def slcPart (b : Bool) : List PV → Option (Option Int × List PV)
  | l => if b = true then match l with
      | .int i :: r => some (some i, r)
      | _ => none
    else some (none, l)
def slcP (lo hi : Bool) : List PV → Option PV
  | x :: as => match slcPart lo as with
    | some (a, as') => match slcPart hi as' with
      | some (b, []) => match x with
        | .lst l => some (.lst (cutP l a b))
        | .tup l => some (.tup (cutP l a b))
        | .xt l => if (cutP l a b).length = l.length then some (.xt l) else some (.tup (cutP l a b))
        | .str z => if z.length ≤ LIM then some (.str (L2.cutS z a b)) else none
        | _ => none
      | _ => none
    | none => none
  | _ => none
/-- t[i:], of a known tuple a known one -/
def slcXP : List PV → Option PV
  | [.xt l, .int i] => some (.xt (cutP l (some i) none))
  | [.tup l, .int i] => some (.tup (cutP l (some i) none))
  | _ => none
def dgetP : List PV → Option PV
  | [.dK ks vs, .int k, .int d] => some ((findK (Sum.inl k) ks vs).getD (.int d))
  | [.dK ks vs, .str k, .int d] => some ((findK (Sum.inr k) ks vs).getD (.int d))
  | _ => none
def dmodP : List PV → Option PV
  | [.int a, .int b] => if 0 < b ∧ b.natAbs.log2 < 9000 then some (.tup [.int (a / b), .int (a % b)]) else none
  | _ => none
def cntP (l : List PV) (a : PV) : Option PV := if (PV.lst l).isD 60 = true ∧ a.isD 60 = true then some (.int (l.countP fun z => eqP z a : Nat)) else none
def lcntP : List PV → Option PV
  | [.lst l, a] => cntP l a
  | _ => none
def tcntP : List PV → Option PV
  | [.xt l, a] => cntP l a
  | _ => none
def lidxP : List PV → Option PV
  | [.lst l, a] => if (PV.lst l).isD 60 = true ∧ a.isD 60 = true ∧ l.length ≤ LIM then (l.findIdx? fun z => eqP z a).map fun j => .int (j : Nat) else none
  | _ => none
def bitsP : List PV → Option PV
  | [.int i] => some (.int (Builtin.Int.intBits i : Nat))
  | _ => none
def revP : List PV → Option PV
  | [.lst l] => some (.lst l.reverse)
  | [.tup l] => some (.tup l.reverse)
  | _ => none
def pairsK : List PV → Option (List (Key × PV))
  | [] => some []
  | .tup [k, v] :: l => match keyP k, pairsK l with
    | some k, some r => some ((k, v) :: r)
    | _, _ => none
  | _ => none
def dmk : List (Key × PV) → List Key → List PV → PV
  | [], ks, vs => .dK ks vs
  | q :: r, ks, vs => dmk r (putKs q.1 ks) (putVs q.1 q.2 ks vs)
def tupleXP : List PV → Option PV
  | [.lst l] => some (.xt l)
  | [.xt l] => some (.xt l)
  | _ => none
/-! dicts whose keys are tuples -/
def idxTP : List PV → Option PV
  | [.dT ks vs, .tup k] => (keysT k).bind fun k => findK k ks vs
  | [.dX ks vs, p] => if p.kok = true then findK p.kq (ks.map PV.kq) vs else none
  | _ => none
def dgetTP : List PV → Option PV
  | [.dT ks vs, .tup k, .int d] => (keysT k).map fun k => (findK k ks vs).getD (.int d)
  | [.dX ks vs, p, .int d] => if p.kok = true then some ((findK p.kq (ks.map PV.kq) vs).getD (.int d)) else none
  | _ => none
def innTP : List PV → Option PV
  | [.tup k, .dT ks _] => (keysT k).map fun k => .bl (hasK k ks)
  | [p, .dX ks _] => if p.kok = true then some (.bl (hasK p.kq (ks.map PV.kq))) else none
  | _ => none
def ninTP : List PV → Option PV
  | [.tup k, .dT ks _] => (keysT k).map fun k => .bl (!hasK k ks)
  | [p, .dX ks _] => if p.kok = true then some (.bl (!hasK p.kq (ks.map PV.kq))) else none
  | _ => none
def keyQ : Key → PV
  | .inl i => .int i
  | .inr x => .str x
def tupQ (k : List Key) : PV := .tup (k.map keyQ)
def PV.flat : PV → Bool
  | .int _ => true
  | .str _ => true
  | _ => false
def PV.keyTup : PV → Bool
  | .tup m => m.all PV.flat
  | _ => false
/-- sorted(d), the keys lists of ints -/
def sortTP : List PV → Option PV
  | [.dT ks _] => if sortOk (ks.map tupQ) = true then some (.lst (sortD (ks.map tupQ))) else none
  | [.dX ks _] => if sortOk ks = true then some (.lst (sortD ks)) else none
  | _ => none
/-- the pairs of dict(pairs), the keys tuples -/
def pairsT : List PV → Option (List (List Key × PV))
  | [] => some []
  | p :: l => match p with
    | .tup [.tup k, v] => match keysT k, pairsT l with
      | some k, some r => some ((k, v) :: r)
      | _, _ => none
    | _ => none
def dictTP : List PV → Option PV
  | [.xt l] => if l.length ≤ LIM then (pairsT l).bind fun r => if (r.map (·.1)).Nodup then some (.dT (r.map (·.1)) (r.map (·.2))) else none else none
  | _ => none
def dict1P : List PV → Option PV
  | [.dK _ _] => none
  | [.xt l] => if l.length ≤ LIM then (pairsK l).map fun r => dmk r [] [] else none
  | [.lst l] => if l.length ≤ LIM then (pairsK l).map fun r => dmk r [] [] else none
  | _ => none
def isTyOP (ts : List String) : List PV → Option PV
  | [p] => (isTys ts p).map .bl
  | _ => none
/-- whether an instance of the refusal c is one of x (all refusals stand straight under one class) -/
def subX (c x : Str) : Bool := decide (x = "BrimError") || (decide (x = "ValueError") || decide (x = c))
def isExP (kn cs : List Str) (ps : List PV) : Option PV := match ps with
  | [.exc c] => if c ∈ kn ∧ ∀ x ∈ cs, x ∈ ("BrimError" : Str) :: "ValueError" :: kn then some (.bl (cs.any (subX c))) else none
  | [.non] => if ∀ x ∈ cs, x ∈ ("BrimError" : Str) :: "ValueError" :: kn then some (.bl false) else none
  | _ => none
def opSem (o : Op) (ps : List PV) : Option PV := match o with
  | .add => addP ps | .sub => subP ps | .mul => mulP ps | .fdiv => fdivP ps | .mod => modP ps | .pow => powP ps | .neg => negP ps
  | .eq => eqOP ps | .ne => neOP ps | .lt => ltOP ps | .le => leOP ps | .gt => gtOP ps | .ge => geOP ps
  | .isN => isNP ps | .isNN => isNNP ps | .isB b => isBP b ps | .isNB b => isNBP b ps | .inn => inP ps | .nin => ninP ps
  | .len => lenP ps | .sum => sumP ps | .abs => absP ps | .int1 => int1P ps | .str1 => str1P ps | .tuple1 => tuple1P ps | .list1 => list1P ps
  | .dict1 => dict1P ps | .sorted => sortedP ps | .allL => allLP ps | .anyL => anyLP ps | .min3 => min3P ps | .max3 => max3P ps | .min2 => min2P ps | .max2 => max2P ps | .minL => minLP ps | .maxL => maxLP ps
  | .idx => idxP ps | .slc lo hi => slcP lo hi ps | .rev => revP ps | .dget => dgetP ps | .isTy ts => isTyOP ts ps | .values => none | .dmod => dmodP ps
  | .lcnt => lcntP ps | .tcnt => tcntP ps | .lidx => lidxP ps | .bits => bitsP ps | .sortedD => sortedDP ps | .minD => minDP ps | .maxD => maxDP ps | .max2D => max2DP ps | .strD => strDP ps | .valsL => valsLP ps | .valsS => valsSP ps | .minV z => minVP z ps | .minT z => minTP z ps | .sset => ssetP ps | .ssetT => ssetTP ps | .lset => lsetP ps | .join => joinP ps | .split => splitP ps | .strip2 => strip2P ps | .intS => intSP ps | .idxS => idxSP ps | .inS => inSP ps | .dictT => dictTP ps | .addX => addXP ps | .isEx kn cs => isExP kn cs ps | .tupleX => tupleXP ps | .idxT => idxTP ps | .dgetT => dgetTP ps | .innT => innTP ps | .ninT => ninTP ps | .sortT => sortTP ps | .slcX => slcXP ps | .lsetX => lsetXP ps
/-- these see whether a tuple's object is known -/
def Op.raw : Op → Bool
  | .dictT => true | .addX => true | .max2D => true | .tcnt => true | .idxT => true | .dgetT => true | .innT => true | .ninT => true | .sortT => true | .dict1 => true | .tupleX => true | .add => true | .mul => true | .tuple1 => true | .slc _ _ => true | .slcX => true
  | _ => false
def opX (o : Op) (ps : List PV) : Option PV := opSem o (if o.raw = true then ps else ps.map PV.dn)
/-- whether a list or dict that the operation tells is a new one -/
def Op.new : Op → Bool
  | .add => true | .mul => true | .list1 => true | .sorted => true | .slc _ _ => true | .rev => true | .dict1 => true | .dictT => true | .values => true | .valsL => true | .sset => true | .ssetT => true | .split => true | .sortedD => true | .sortT => true
  | _ => false

/-- a new object is our own -/
def ownV (o : Op) (p : PV) : LV := if o.new = true then match p with
  | .lst l => .own (.lst l)
  | .dK ks l => .own (.dK ks l)
  | .dT ks l => .own (.dT ks l)
  | .dX ks l => .own (.dX ks l)
  | p => .fro p else .fro p
/-- it is no list or dict -/
def PV.loose : PV → Bool
  | .lst _ => false
  | .dK _ _ => false
  | .dT _ _ => false
  | .dX _ _ => false
  | _ => true

/-- whose method it is -/
def recvOk : Op → Option PV → Bool
  | .dget, some (.dK _ _) => true
  | .dgetT, some (.dT _ _) => true
  | .dgetT, some (.dX _ _) => true
  | .values, some (.dK _ _) => true
  | .lcnt, some (.lst _) => true
  | .join, some (.str _) => true
  | .split, some (.str _) => true
  | .strip2, some (.str _) => true
  | .lidx, some (.lst _) => true
  | .tcnt, some (.xt _) => true
  | _, _ => false

/-- the keys of a dict whose keys are values, with one more -/
def putXs (p : PV) (ks : List PV) : List PV := if p.kq ∈ ks.map PV.kq then ks else ks ++ [p]
/-- x[k] = p, x our own -/
def setIxP (l : LV) (k p : PV) : Option LV := match l, k with
  | .own (.lst l), .int i => (ixN l.length i).map fun j => .own (.lst (l.set j p))
  | .own (.dK ks vs), k => (keyP k).bind fun k => if ks.length < LIM then some (.own (.dK (putKs k ks) (putVs k p ks vs))) else none
  | .own (.dT ks vs), .tup k => (keysT k).bind fun k => if ks.length < LIM then some (.own (.dT (putKs k ks) (putVs k p ks vs))) else none
  | .own (.dX ks vs), k => if k.kok = true ∧ ks.length < LIM then some (.own (.dX (putXs k ks) (putVs k.kq p (ks.map PV.kq) vs))) else none
  | _, _ => none
/-- the part of a state that a slot names -/
def at' (ρ : Env) (i : Nat) : Option LV := match ρ[i]? with
  | some (some l) => some l
  | _ => none
/-- a number that a slot names -/
def slotInt (ρ : Env) (j : Nat) : Option Int := match at' ρ j with
  | some (.fro (.int k)) => some k
  | _ => none
/-! ### targets -/
mutual
def Tg.bind : Tg → PV → Env → Option Env
  | .one i, p, ρ => some (ρ.set i (some (.fro p)))
  | .at i k, p, ρ => match (at' ρ i).bind fun l => setIxP l (.int k) p with
    | some l => some (ρ.set i (some l))
    | none => none
  | .atV i j, p, ρ => match (slotInt ρ j).bind fun k => (at' ρ i).bind fun l => setIxP l (.int k) p with
    | some l => some (ρ.set i (some l))
    | none => none
  | .tup ts, p, ρ => match p with
    | .tup l => if l.length = ts.length then Tg.binds ts l ρ else none
    | .lst l => if l.length = ts.length then Tg.binds ts l ρ else none
    | .xt l => if l.length = ts.length then Tg.binds ts l ρ else none
    | _ => none
def Tg.binds : List Tg → List PV → Env → Option Env
  | [], [], ρ => some ρ
  | t :: ts, p :: ps, ρ => match t.bind p ρ with
    | some ρ' => Tg.binds ts ps ρ'
    | none => none
  | _, _, _ => none
end
/-- slots forgotten -/
def wipeE (ρ : Env) : List Nat → Env
  | [] => ρ
  | v :: vs => (wipeE ρ vs).set v none
/-- slots of the first, as far as they are frozen, put back -/
def backE (ρ ρ' : Env) : List Nat → Env
  | [] => ρ'
  | v :: vs => match ρ[v]? with
    | some (some (.fro p)) => (backE ρ ρ' vs).set v (some (.fro p))
    | _ => (backE ρ ρ' vs).set v none

/-! ### expressions -/
def compL (f : PV → Env → ER (Option PV)) : List PV → Env → ER (List PV)
  | [], ρ => .ok [] ρ
  | x :: xs, ρ => match f x ρ with
    | .ok (some y) ρ1 => match compL f xs ρ1 with
      | .ok ys ρ2 => .ok (y :: ys) ρ2
      | _ => .st
    | .ok none ρ1 => compL f xs ρ1
    | _ => .st
def rngP (a b : Int) : List PV := (List.range (b - a).toNat).map fun k => .int (a + (k : Nat))
def rngOk (a : Int) : Prop := -(2 ^ 62) ≤ a ∧ a < 2 ^ 62
instance (a : Int) : Decidable (rngOk a) := by unfold rngOk; infer_instance
/-- what is told of a call -/
def callE (g : List LV → CR) (avs : List AV) (ρ : Env) : ER LV := match AV.lvs ρ avs with
  | some ls => if (AV.refs avs).Nodup then match g ls with
      | .ok r ls' => if ls'.length = ls.length then .ok r (AV.back ρ avs (maskL ls ls')) else .st
      | .ex c ls' => if ls'.length = ls.length then .ex c (AV.back ρ avs (maskL ls ls')) else .st
      | .st => .st
    else .st
  | none => .st
/-- one slot more in front -/
def AV.sh : AV → AV
  | .val p => .val p
  | .ref i => .ref (i + 1)
/-- slot i holds an instance of the class c with just these attributes -/
def insAt (ρ : Env) (i : Nat) (c : Str) (ns : List Str) : Bool := match ρ[i]? with
  | some (some (.ins d ms _)) => decide (d = c ∧ ms = ns)
  | _ => false
/-- the attributes of the instance in slot i -/
def insLs (ρ : Env) (i : Nat) (c : Str) (ns : List Str) : Option (List LV) := match ρ[i]? with
  | some (some (.ins d ms ls)) => if d = c ∧ ms = ns then some ls else none
  | _ => none
def fldE (o : Option LV) (ρ : Env) : ER PV := match o with
  | some (.fro p) => .ok p ρ
  | _ => .st
def fldO (o : Op) (l : Option LV) : Option PV := match l with
  | some l => l.pv.bind fun p => opX o [p]
  | none => none
/-- a new instance: its __init__ tells nothing -/
def madeT (r : ER LV) : ER LV := match r with
  | .ok (.fro .non) (some l :: ρ) => .ok l ρ
  | _ => .st
def makeE (g : List LV → CR) (c : Str) (avs : List AV) (ρ : Env) : ER LV := madeT (callE g (.ref 0 :: avs.map AV.sh) (some (.ins c [] []) :: ρ))
/-- a call with a temporary of our own in front of the slots, then dropped -/
def dropT (r : ER LV) : ER LV := match r with
  | .ok r ρ => .ok r ρ.tail
  | .ex c ρ => .ex c ρ.tail
  | .st => .st
/-- a new dict -/
def newL (t : Bool) : LV := if t = true then .own (.dT [] []) else .own (.dK [] [])
def callT (g : List LV → CR) (avs : List AV) (l : LV) (bvs : List AV) (ρ : Env) : ER LV := dropT (callE g (avs.map AV.sh ++ .ref 0 :: bvs.map AV.sh) (some l :: ρ))
def froE (r : ER LV) : ER PV := r.bind fun l ρ => ER.of l.pv ρ
def enumF : Nat → List PV → List PV
  | _, [] => []
  | k, p :: l => .tup [.int (k : Nat), p] :: enumF (k + 1) l
def enumP (l : List PV) : List PV := enumF 0 l
def zipP : List PV → List PV → List PV
  | p :: l, q :: m => .tup [p, q] :: zipP l m
  | _, _ => []
def seqOf : PV → Option (List PV)
  | .lst l => some l
  | .tup l => some l
  | .xt l => some l
  | .gt l => some l
  | _ => none
def enumS (p : PV) (ρ1 : Env) : ER (List PV) := match p with
    | .lst l => .ok (enumP l) ρ1
    | .tup l => .ok (enumP l) ρ1
    | .xt l => .ok (enumP l) ρ1
    | _ => .st
theorem seqOf_dn (p : PV) : seqOf p = seqOf p.dn := by cases p <;> rfl

def ownL (ρ : Env) (i : Nat) : Bool := match at' ρ i with
  | some (.own (.lst _)) => true
  | _ => false
def ownD (ρ : Env) (i : Nat) : Bool := match at' ρ i with
  | some (.own (.dK _ _)) => true
  | _ => false
/-- {x: y} -/
def dispP (ρ : Env) (i j : Nat) : Option PV := match at' ρ i, at' ρ j with
  | some (.fro k), some (.fro q) => (keyP k).map fun key => .dK [key] [q]
  | _, _ => none
/-- x.pop(j): what it tells, and the list behind it -/
def popP (l : Option LV) (p : PV) : Option (PV × LV) := match l, p with
  | some (.own (.lst l)), .int j => if 0 ≤ j ∧ j < LIM then (l[j.toNat]?).map fun x => (x, .own (.lst (l.eraseIdx j.toNat))) else none
  | _, _ => none
def poplP (l : Option LV) : Option (PV × LV) := match l with
  | some (.own (.lst l)) => (l[l.length - 1]?).map fun x => (x, .own (.lst l.dropLast))
  | _ => none
/-- without the key -/
def dropV (k : Key) (ks : List Key) (vs : List PV) : List (Key × PV) := (ks.zip vs).filter fun p => decide (p.1 ≠ k)
def popDP (l : Option LV) (p : PV) : Option (PV × LV) := match l with
  | some (.own (.dK ks vs)) => (keyP p).bind fun k => (findK k ks vs).map fun x => (x, .own (.dK ((dropV k ks vs).map (·.1)) ((dropV k ks vs).map (·.2))))
  | _ => none
/-- the list of slot i is so now -/
def putE (i : Nat) (o : Option (PV × LV)) (ρ : Env) : ER PV := match o with
  | some (x, l) => .ok x (ρ.set i (some l))
  | none => .st
/-- a dict's keys, its pairs -/
def keyPV : Key → PV
  | .inl i => .int i
  | .inr x => .str x
def keysP (ks : List Key) : List PV := ks.map keyPV
def itemsP : List Key → List PV → List PV
  | k :: ks, v :: vs => .tup [keyPV k, v] :: itemsP ks vs
  | _, _ => []
/-! what may outlive the walk over a dict: nothing that may hold it -/
mutual
def PV.noD : PV → Bool
  | .tup l => PV.noDs l
  | .xt l => PV.noDs l
  | .lst l => PV.noDs l
  | .dK _ _ => false
  | .dT _ _ => false
  | .dX _ _ => false
  | .obj _ _ _ => false
  | .gt _ => false
  | _ => true
def PV.noDs : List PV → Bool
  | [] => true
  | p :: l => p.noD && PV.noDs l
end
def thinL : LV → Option LV
  | .fro p => if p.noD = true then some (.fro p) else none
  | .own (.lst l) => if PV.noDs l = true then some (.own (.lst l)) else none
  | .own (.dK ks l) => if PV.noDs l = true then some (.own (.dK ks l)) else none
  | .own (.dT ks l) => if PV.noDs l = true then some (.own (.dT ks l)) else none
  | .own (.dX ks l) => if PV.noDs l = true ∧ PV.noDs ks = true then some (.own (.dX ks l)) else none
  | _ => none
def thinO (o : Option LV) : Option LV := o.bind thinL
def thin (ρ : Env) : Env := ρ.map thinO
/-- our own thing again in slot i -/
def putO (i : Nat) (l : LV) (r : ER PV) : ER PV := r.bind fun p ρ => .ok p (ρ.set i (some l))
def ER.calm {α : Type} (r : ER α) : ER α := match r with
  | .ok a ρ => .ok a ρ
  | _ => .st
/-- behind a comprehension over a dict that was ours -/
def lockE (i : Nat) (l : LV) (r : ER PV) : ER PV := match r with
  | .ok (.lst ys) ρ => if PV.noDs ys = true then .ok (.lst ys) ((thin ρ).set i (some l)) else .st
  | _ => .st
/-- an index: a name's number, or a known one -/
def ixOf (ρ : Env) : Nat ⊕ Int → Option Int
  | .inl j => slotInt ρ j
  | .inr k => some k
def ofldP (l : Option LV) (c : Str) (ns : List Str) (k : Nat) : Option PV := match l with
  | some (.fro (.obj d ms ps)) => if d = c ∧ ms = ns then ps[k]? else none
  | _ => none
def fixP (l : Option LV) (j : Option Int) : Option PV := match l, j with
  | some (.own (.lst l)), some j => atI l j
  | _, _ => none
/-- what a locked call may tell -/
def PV.bare : PV → Bool
  | .non => true
  | .bl _ => true
  | .int _ => true
  | .str _ => true
  | _ => false
def LV.bare : LV → Bool
  | .fro p => p.bare
  | .own (.lst l) => l.all PV.bare
  | _ => false
def pvsL : List LV → Option (List PV)
  | [] => some []
  | l :: ls => match l.pv, pvsL ls with
    | some p, some ps => some (p :: ps)
    | _, _ => none
/-- a call of a method that reads alone: the instance is frozen as long as it runs -/
def callR (g : List LV → CR) (i : Nat) (c : Str) (ns : List Str) (avs : List AV) (ρ : Env) : ER LV := match (insLs ρ i c ns).bind pvsL, AV.lvs ρ avs with
  | some ps, some ls => if ls.all LV.isFro = true then match g (.fro (.obj c ns ps) :: ls) with
      | .ok r _ => if r.bare = true then .ok r ρ else .st
      | _ => .st
    else .st
  | _, _ => .st
section
variable (Φ : Nat → List LV → CR)
mutual
def evE : Ex → Env → ER PV
  | .frz e, ρ => evE e ρ
  | .ofld i c ns k, ρ => ER.of (ofldP (at' ρ i) c ns k) ρ
  | .fix i c ns k ix, ρ => ER.of (fixP ((insLs ρ i c ns).bind fun ls => ls[k]?) (ixOf ρ ix)) ρ
  | .mcallR j i c ns as, ρ => if insAt ρ i c ns = true then (evAs as ρ).bind fun avs ρ1 => froE (callR (Φ j) i c ns avs ρ1) else .st
  | .var i, ρ => match ρ[i]? with
    | some (some (.fro p)) => .ok p ρ
    | some (some (.own p)) => .ok p (ρ.set i (some (.fro p)))
    | _ => .st
  | .cst c, ρ => .ok c ρ
  | .app o as, ρ => (evAs as ρ).bind fun avs ρ1 => ER.of ((AV.pvs ρ1 avs).bind (opX o)) ρ1
  | .mth o a as, ρ => (evA a ρ).bind fun av ρ1 => if recvOk o (av.pv ρ1) = true then (evAs as ρ1).bind fun avs ρ2 => ER.of ((AV.pvs ρ2 (av :: avs)).bind (opSem o)) ρ2 else .st
  | .tup es, ρ => (evEs es ρ).bind fun ps ρ1 => if ps.length ≤ LIM then .ok (.tup ps) ρ1 else .st
  | .lst es, ρ => (evEs es ρ).bind fun ps ρ1 => if ps.length ≤ LIM then .ok (.lst ps) ρ1 else .st
  | .dnew, ρ => .ok (.dK [] []) ρ
  | .call j as, ρ => (evAs as ρ).bind fun avs ρ1 => froE (callE (Φ j) avs ρ1)
  | .sel j1 j2 i as, ρ => match at' ρ i with
    | some (.fro (.int 0)) => (evAs as ρ).bind fun avs ρ1 => froE (callE (Φ j1) avs ρ1)
    | some (.fro (.int 1)) => (evAs as ρ).bind fun avs ρ1 => froE (callE (Φ j2) avs ρ1)
    | _ => .st
  | .mcall j i c ns as, ρ => if insAt ρ i c ns = true then (evAs as ρ).bind fun avs ρ1 => froE (callE (Φ j) (.ref i :: avs) ρ1) else .st
  | .make _ _ _, _ => .st
  | .fld i c ns k, ρ => fldE ((insLs ρ i c ns).bind fun ls => ls[k]?) ρ
  | .fop o i c ns k, ρ => ER.of (fldO o ((insLs ρ i c ns).bind fun ls => ls[k]?)) ρ
  | .and a b, ρ => (evE a ρ).bind fun p ρ1 => match p with
    | .bl true => evE b ρ1
    | .bl false => .ok (.bl false) ρ1
    | _ => .st
  | .or a b, ρ => (evE a ρ).bind fun p ρ1 => match p with
    | .bl false => evE b ρ1
    | .bl true => .ok (.bl true) ρ1
    | _ => .st
  | .not a, ρ => (evE a ρ).bind fun p ρ1 => match p with
    | .bl b => .ok (.bl (!b)) ρ1
    | _ => .st
  | .ite c a b, ρ => (evT c ρ).bind fun t ρ1 => if t = true then evE a ρ1 else evE b ρ1
  | .chain o1 o2 a b c, ρ => (evE a ρ).bind fun p ρ1 => (evE b ρ1).bind fun q ρ2 => match opSem o1 [p, q] with
    | some (.bl true) => (evE c ρ2).bind fun r ρ3 => ER.of (opSem o2 [q, r]) ρ3
    | some (.bl false) => .ok (.bl false) ρ2
    | _ => .st
  | .chain3 o1 o2 o3 a b c d, ρ => (evE a ρ).bind fun p ρ1 => (evE b ρ1).bind fun q ρ2 => match opSem o1 [p, q] with
    | some (.bl true) => (evE c ρ2).bind fun r ρ3 => match opSem o2 [q, r] with
      | some (.bl true) => (evE d ρ3).bind fun u ρ4 => ER.of (opSem o3 [r, u]) ρ4
      | some (.bl false) => .ok (.bl false) ρ3
      | _ => .st
    | some (.bl false) => .ok (.bl false) ρ2
    | _ => .st
  | .sl2 a lo hi, ρ => (evA a ρ).bind fun av ρ1 => (evE lo ρ1).bind fun p ρ2 => match p with
    | .int i => (evE hi ρ2).bind fun q ρ3 => match q with
      | .int j => ER.of ((av.pv ρ3).bind fun x => slcP true true [x, .int i, .int j]) ρ3
      | _ => .st
    | _ => .st
  | .comp s t vs c e, ρ => (evSrc s ρ).bind fun xs ρ1 =>
      if xs.length ≤ LIM then (compL (fun x ρ2 => match t.bind x ρ2 with
        | some ρ3 => (evTs c ρ3).bind fun b ρ4 => if b = true then (evE e ρ4).bind fun y ρ5 => .ok (some y) (wipeE ρ5 vs) else .ok none (wipeE ρ4 vs)
        | none => .st) xs (wipeE ρ1 vs)).bind fun ys ρ6 => .ok (.lst ys) (backE ρ1 ρ6 vs) else .st
  | .compK i t vs c e, ρ => match at' ρ i with
    | some (.own (.dK ks ws)) => if (keysP ks).length ≤ LIM then lockE i (.own (.dK ks ws)) ((compL (fun x ρ2 => match t.bind x ρ2 with
        | some ρ3 => (evTs c ρ3).bind fun b ρ4 => if b = true then (evE e ρ4).bind fun y ρ5 => .ok (some y) (wipeE ρ5 vs) else .ok none (wipeE ρ4 vs)
        | none => .st) (keysP ks) (wipeE (ρ.set i (some (.fro (.dK ks ws)))) vs)).bind fun ys ρ6 => .ok (.lst ys) (backE (ρ.set i (some (.fro (.dK ks ws)))) ρ6 vs)) else .st
    | some (.own (.dT ks ws)) => if (ks.map tupQ).length ≤ LIM then lockE i (.own (.dT ks ws)) ((compL (fun x ρ2 => match t.bind x ρ2 with
        | some ρ3 => (evTs c ρ3).bind fun b ρ4 => if b = true then (evE e ρ4).bind fun y ρ5 => .ok (some y) (wipeE ρ5 vs) else .ok none (wipeE ρ4 vs)
        | none => .st) (ks.map tupQ) (wipeE (ρ.set i (some (.fro (.dT ks ws)))) vs)).bind fun ys ρ6 => .ok (.lst ys) (backE (ρ.set i (some (.fro (.dT ks ws)))) ρ6 vs)) else .st
    | _ => .st
  | .compO i t vs c e, ρ => match at' ρ i with
    | some (.own (.lst l)) => if l.length ≤ LIM then putO i (.own (.lst l)) ((compL (fun x ρ2 => match t.bind x ρ2 with
        | some ρ3 => (evTs c ρ3).bind fun b ρ4 => if b = true then (evE e ρ4).bind fun y ρ5 => .ok (some y) (wipeE ρ5 vs) else .ok none (wipeE ρ4 vs)
        | none => .st) l (wipeE (ρ.set i none) vs)).bind fun ys ρ6 => .ok (.lst ys) (backE (ρ.set i none) ρ6 vs)) else .st
    | _ => .st
  | .mvv i, ρ => match ρ[i]? with
    | some (some (.fro p)) => .ok p ρ
    | some (some (.own p)) => .ok p (ρ.set i (some (.fro p)))
    | _ => .st
  | .popE i e, ρ => if ownL ρ i = true then (evE e ρ).bind fun p ρ1 => putE i (popP (at' ρ1 i) p) ρ1 else .st
  | .popL i, ρ => putE i (poplP (at' ρ i)) ρ
  | .popD i e, ρ => if ownD ρ i = true then (evE e ρ).bind fun p ρ1 => putE i (popDP (at' ρ1 i) p) ρ1 else .st
  | .dispV i j, ρ => ER.of (dispP ρ i j) ρ
  | .disp1 a b, ρ => (evE a ρ).calm.bind fun p ρ1 => (evE b ρ1).calm.bind fun q ρ2 => ER.of ((keyP p).map fun k => .dK [k] [q]) ρ2
  | .callT j as k cs bs, ρ => (evAs as ρ).bind fun avs ρ1 => (evAs cs ρ1).bind fun cvs ρ2 => (callE (Φ k) cvs ρ2).bind fun l ρ3 => (evAs bs ρ3).bind fun bvs ρ4 => froE (callT (Φ j) avs l bvs ρ4)
  | .callN j as t bs, ρ => (evAs as ρ).bind fun avs ρ1 => (evAs bs ρ1).bind fun bvs ρ4 => froE (callT (Φ j) avs (newL t) bvs ρ4)
  | .dnewT, ρ => .ok (.dT [] []) ρ
  | .dnewX, ρ => .ok (.dX [] []) ρ
  | .xtup es, ρ => (evEs es ρ).bind fun ps ρ1 => if ps.length ≤ LIM then .ok (.xt ps) ρ1 else .st
def evA : Arg → Env → ER AV
  | .ref i, ρ => match ρ[i]? with
    | some (some (.fro p)) => .ok (.val p) ρ
    | some (some _) => .ok (.ref i) ρ
    | _ => .st
  | .val e, ρ => (evE e ρ).bind fun p ρ1 => .ok (.val p) ρ1
def evAs : List Arg → Env → ER (List AV)
  | [], ρ => .ok [] ρ
  | a :: as, ρ => (evA a ρ).bind fun av ρ1 => (evAs as ρ1).bind fun avs ρ2 => .ok (av :: avs) ρ2
def evEs : List Ex → Env → ER (List PV)
  | [], ρ => .ok [] ρ
  | e :: es, ρ => (evE e ρ).bind fun p ρ1 => (evEs es ρ1).bind fun ps ρ2 => .ok (p :: ps) ρ2
def evT : Tst → Env → ER Bool
  | .and a b, ρ => (evT a ρ).bind fun t ρ1 => if t = true then evT b ρ1 else .ok false ρ1
  | .or a b, ρ => (evT a ρ).bind fun t ρ1 => if t = true then .ok true ρ1 else evT b ρ1
  | .not a, ρ => (evT a ρ).bind fun t ρ1 => .ok (!t) ρ1
  | .e x, ρ => (evE x ρ).bind fun p ρ1 => match p with
    | .bl b => .ok b ρ1
    | _ => .st
def evTs : List Tst → Env → ER Bool
  | [], ρ => .ok true ρ
  | [c], ρ => evT c ρ
  | _, _ => .st
def evSrc : Src → Env → ER (List PV)
  | .seq e, ρ => (evE e ρ).bind fun p ρ1 => ER.of (seqOf p) ρ1
  | .seqS e, ρ => (evE e ρ).bind fun p ρ1 => match p with
    | .str x => .ok (signsP x) ρ1
    | _ => .st
  | .lock _ _, _ => .st
  | .rng1 a, ρ => (evE a ρ).bind fun p ρ1 => match p with
    | .int j => if rngOk j then .ok (rngP 0 j) ρ1 else .st
    | _ => .st
  | .rng2 a b, ρ => (evE a ρ).bind fun p ρ1 => (evE b ρ1).bind fun q ρ2 => match p, q with
    | .int i, .int j => if rngOk i ∧ rngOk j then .ok (rngP i j) ρ2 else .st
    | _, _ => .st
  | .enum e, ρ => (evE e ρ).bind enumS
  | .zip a b, ρ => (evE a ρ).bind fun p ρ1 => (evE b ρ1).bind fun q ρ2 => match p.dn, q.dn with
    | .lst l, .lst m => .ok (zipP l m) ρ2
    | .tup l, .tup m => .ok (zipP l m) ρ2
    | .lst l, .tup m => .ok (zipP l m) ρ2
    | .tup l, .lst m => .ok (zipP l m) ρ2
    | _, _ => .st
  | .rev e, ρ => (evE e ρ).bind fun p ρ1 => ER.of ((seqOf p).map List.reverse) ρ1
end
/-- a value that may be our own -/
def evL : Ex → Env → ER LV
  | .app o as, ρ => (evE Φ (.app o as) ρ).bind fun p ρ1 => .ok (ownV o p) ρ1
  | .mth o a as, ρ => (evE Φ (.mth o a as) ρ).bind fun p ρ1 => .ok (ownV o p) ρ1
  | .lst es, ρ => (evE Φ (.lst es) ρ).bind fun p ρ1 => .ok (.own p) ρ1
  | .dnew, ρ => .ok (.own (.dK [] [])) ρ
  | .dnewT, ρ => .ok (.own (.dT [] [])) ρ
  | .dnewX, ρ => .ok (.own (.dX [] [])) ρ
  | .dispV i j, ρ => (ER.of (dispP ρ i j) ρ).bind fun p ρ1 => .ok (.own p) ρ1
  | .disp1 a b, ρ => (evE Φ (.disp1 a b) ρ).bind fun p ρ1 => .ok (.own p) ρ1
  | .call j as, ρ => (evAs Φ as ρ).bind fun avs ρ1 => callE (Φ j) avs ρ1
  | .sel j1 j2 i as, ρ => match at' ρ i with
    | some (.fro (.int 0)) => (evAs Φ as ρ).bind fun avs ρ1 => callE (Φ j1) avs ρ1
    | some (.fro (.int 1)) => (evAs Φ as ρ).bind fun avs ρ1 => callE (Φ j2) avs ρ1
    | _ => .st
  | .mcall j i c ns as, ρ => if insAt ρ i c ns = true then (evAs Φ as ρ).bind fun avs ρ1 => callE (Φ j) (.ref i :: avs) ρ1 else .st
  | .mcallR j i c ns as, ρ => if insAt ρ i c ns = true then (evAs Φ as ρ).bind fun avs ρ1 => callR (Φ j) i c ns avs ρ1 else .st
  | .make j c as, ρ => (evAs Φ as ρ).bind fun avs ρ1 => makeE (Φ j) c avs ρ1
  | .fop o i c ns k, ρ => (evE Φ (.fop o i c ns k) ρ).bind fun p ρ1 => .ok (ownV o p) ρ1
  | .callT j as k cs bs, ρ => (evAs Φ as ρ).bind fun avs ρ1 => (evAs Φ cs ρ1).bind fun cvs ρ2 => (callE (Φ k) cvs ρ2).bind fun l ρ3 => (evAs Φ bs ρ3).bind fun bvs ρ4 => callT (Φ j) avs l bvs ρ4
  | .callN j as t bs, ρ => (evAs Φ as ρ).bind fun avs ρ1 => (evAs Φ bs ρ1).bind fun bvs ρ4 => callT (Φ j) avs (newL t) bvs ρ4
  | .comp s t vs c e, ρ => (evE Φ (.comp s t vs c e) ρ).bind fun p ρ1 => .ok (.own p) ρ1
  | .compK i t vs c e, ρ => (evE Φ (.compK i t vs c e) ρ).bind fun p ρ1 => .ok (.own p) ρ1
  | .compO i t vs c e, ρ => (evE Φ (.compO i t vs c e) ρ).bind fun p ρ1 => .ok (.own p) ρ1
  | .mvv i, ρ => match at' ρ i with
    | some (.own p) => .ok (.own p) (ρ.set i none)
    | some (.fro p) => .ok (.fro p) ρ
    | _ => .st
  | e, ρ => (evE Φ e ρ).bind fun p ρ1 => .ok (.fro p) ρ1

/-! ### statements -/
def forL (f : PV → Env → SO) : List PV → Env → SO
  | [], ρ => .nx ρ
  | x :: xs, ρ => match f x ρ with
    | .nx ρ1 => forL f xs ρ1
    | .ct ρ1 => forL f xs ρ1
    | .bk ρ1 => .nx ρ1
    | .rt l ρ1 => .rt l ρ1
    | .ex c ρ1 => .ex c ρ1
    | .st => .st
def whlL (c : Env → ER Bool) (f : Env → SO) : Nat → Env → SO
  | 0, _ => .st
  | n + 1, ρ => match c ρ with
    | .ok true ρ1 => match f ρ1 with
      | .nx ρ2 => whlL c f n ρ2
      | .ct ρ2 => whlL c f n ρ2
      | .bk ρ2 => .nx ρ2
      | .rt l ρ2 => .rt l ρ2
      | .ex c ρ2 => .ex c ρ2
      | .st => .st
    | .ok false ρ1 => .nx ρ1
    | .ex e ρ1 => .ex e ρ1
    | .st => .st
/-- an item goes to its target, then the body -/
def bindS (f : Env → SO) (t : Tg) (x : PV) (ρ : Env) : SO := match t.bind x ρ with
  | some ρ' => f ρ'
  | none => .st
def ER.so {α : Type} (r : ER α) (f : α → Env → SO) : SO := match r with
  | .ok a ρ => f a ρ
  | .ex c ρ => .ex c ρ
  | .st => .st
@[simp] theorem ER.so_ok {α : Type} (a : α) (ρ : Env) (f : α → Env → SO) : (ER.ok a ρ).so f = f a ρ := rfl
@[simp] theorem ER.so_ex {α : Type} (c : Str) (ρ : Env) (f : α → Env → SO) : (ER.ex c ρ : ER α).so f = .ex c ρ := rfl
@[simp] theorem ER.so_st {α : Type} (f : α → Env → SO) : (ER.st : ER α).so f = .st := rfl
def SO.of (o : Option Env) : SO := match o with
  | some ρ => .nx ρ
  | none => .st
@[simp] theorem SO.of_some (ρ : Env) : SO.of (some ρ) = .nx ρ := rfl
@[simp] theorem SO.of_none : SO.of none = .st := rfl
def parE : List Nat → List PV → Env → Option Env
  | [i, j], [p, q], ρ => some ((ρ.set i (some (.fro p))).set j (some (.fro q)))
  | _, _, _ => none
variable (n : Nat)
def fsetS (i : Nat) (c : Str) (ns : List Str) (k : Nat) (l : LV) (ρ : Env) : SO := match insLs ρ i c ns with
  | some ls => if k < ls.length ∧ ns.length < 900 then .nx (ρ.set i (some (.ins c ns (ls.set k l)))) else .st
  | none => .st
def fnewS (i : Nat) (c : Str) (ns : List Str) (f : Str) (l : LV) (ρ : Env) : SO := match insLs ρ i c ns with
  | some ls => if f ∉ ns ∧ ns.length < 900 then .nx (ρ.set i (some (.ins c (ns ++ [f]) (ls ++ [l])))) else .st
  | none => .st
def fappS (i : Nat) (c : Str) (ns : List Str) (k : Nat) (q : Option PV) (ρ : Env) : SO := match insLs ρ i c ns, q with
  | some ls, some q => (match ls[k]? with
    | some (.own (.lst l)) => if l.length < LIM then .nx (ρ.set i (some (.ins c ns (ls.set k (.own (.lst (l ++ [q]))))))) else .st
    | _ => .st)
  | _, _ => .st
def fsetIxS (i : Nat) (c : Str) (ns : List Str) (k : Nat) (ix : Nat ⊕ Int) (p : PV) (ρ : Env) : SO := match insLs ρ i c ns, ixOf ρ ix with
  | some ls, some j => (match ls[k]? with
    | some (.own (.lst l)) => (match ixN l.length j with
      | some m => .nx (ρ.set i (some (.ins c ns (ls.set k (.own (.lst (l.set m p)))))))
      | none => .st)
    | _ => .st)
  | _, _ => .st
/-- the append, the instance's attributes as they were ahead of the value -/
def fappES (i : Nat) (c : Str) (ns : List Str) (k : Nat) (ls : List LV) (l : List PV) (q : PV) (ρ : Env) : SO := if l.length < LIM then .nx (ρ.set i (some (.ins c ns (ls.set k (.own (.lst (l ++ [q]))))))) else .st
def froAt (ρ : Env) (j : Nat) : Option PV := match at' ρ j with
  | some (.fro q) => some q
  | _ => none
/-- the clause's name -/
def setX (i : Option Nat) (c : Str) (ρ : Env) : Env := match i with
  | some i => ρ.set i (some (.fro (.exc c)))
  | none => ρ
def goneX (i : Option Nat) (ρ : Env) : Env := match i with
  | some i => ρ.set i none
  | none => ρ
/-- behind a walk over a dict that was ours -/
def lockR (i : Nat) (l : LV) (r : SO) : SO := match r with
  | .nx ρ => .nx ((thin ρ).set i (some l))
  | .rt v ρ => match thinL v with
    | some w => .rt w ((thin ρ).set i (some l))
    | none => .st
  | _ => .st
/-- an except suite's end -/
def suiteX (i : Option Nat) (r : SO) : SO := match r with
  | .nx ρ => .nx (goneX i ρ)
  | .bk ρ => .bk (goneX i ρ)
  | .ct ρ => .ct (goneX i ρ)
  | .rt l ρ => .rt l ρ
  | _ => .st
/-- what stands behind a try's body -/
def tryK (x : Str) (i : Option Nat) (kn : List Str) (f : Env → SO) (r : SO) : SO := match r with
  | .ex c ρ => if c ∈ kn ∧ x ∈ ("BrimError" : Str) :: kn then (if subX c x = true then suiteX i (f (setX i c ρ)) else .ex c ρ) else .st
  | r => r
mutual
def exS : St → Env → SO
  | .set i e, ρ => (evL Φ e ρ).so fun l ρ1 => .nx (ρ1.set i (some l))
  | .unp t e, ρ => (evE Φ e ρ).so fun p ρ1 => SO.of (t.bind p ρ1)
  | .par is es, ρ => (evEs Φ es ρ).so fun ps ρ1 => SO.of (parE is ps ρ1)
  | .setIx i k e, ρ => (evE Φ e ρ).so fun p ρ1 => if (at' ρ1 i).isSome = true then (evE Φ k ρ1).so fun q ρ2 => (match (at' ρ2 i).bind fun l => setIxP l q p with
    | some l => .nx (ρ2.set i (some l))
    | none => .st) else .st
  | .app i e, ρ => if ownL ρ i = true then (evE Φ e ρ).so fun p ρ1 => (match at' ρ1 i with
    | some (.own (.lst l)) => if l.length < LIM then .nx (ρ1.set i (some (.own (.lst (l ++ [p]))))) else .st
    | _ => .st) else .st
  | .ext i e, ρ => if ownL ρ i = true then (evE Φ e ρ).so fun p ρ1 => (match at' ρ1 i, p with
    | some (.own (.lst l)), .lst m => if l.length + m.length ≤ LIM then .nx (ρ1.set i (some (.own (.lst (l ++ m))))) else .st
    | _, _ => .st) else .st
  | .popA i e, ρ => if ownL ρ i = true then (evE Φ e ρ).so fun p ρ1 => (match at' ρ1 i, p with
    | some (.own (.lst l)), .int j => if 0 ≤ j ∧ j < l.length ∧ j < LIM then .nx (ρ1.set i (some (.own (.lst (l.eraseIdx j.toNat))))) else .st
    | _, _ => .st) else .st
  | .insA i k e, ρ => if ownL ρ i = true then (evE Φ k ρ).so fun q ρ1 => (evE Φ e ρ1).so fun p ρ2 => (match at' ρ2 i, q with
    | some (.own (.lst l)), .int j => if l.length < LIM ∧ 0 ≤ j ∧ j < LIM then .nx (ρ2.set i (some (.own (.lst (l.take j.toNat ++ p :: l.drop j.toNat))))) else .st
    | _, _ => .st) else .st
  | .fset i c ns k e, ρ => (evL Φ e ρ).so fun l ρ1 => fsetS i c ns k l ρ1
  | .fnew i c ns f e, ρ => (evL Φ e ρ).so fun l ρ1 => fnewS i c ns f l ρ1
  | .fsetIx i c ns k ix e, ρ => (evE Φ e ρ).so fun p ρ1 => fsetIxS i c ns k ix p ρ1
  | .fappE i c ns k e, ρ => match insLs ρ i c ns with
    | some ls => match ls[k]? with
      | some (.own (.lst l)) => (evE Φ e (ρ.set i none)).calm.so fun q ρ1 => fappES i c ns k ls l q ρ1
      | _ => .st
    | _ => .st
  | .fappV i c ns k j, ρ => fappS i c ns k (froAt ρ j) ρ
  | .fappT i c ns k g, ρ => fappS i c ns k ((fldO .sorted ((insLs ρ i c ns).bind fun ls => ls[g]?)).bind fun r => opX .tuple1 [r]) ρ
  | .ex e, ρ => (evE Φ e ρ).so fun _ ρ1 => .nx ρ1
  | .ret e, ρ => (evL Φ e ρ).so fun l ρ1 => .rt l ρ1
  | .retV i, ρ => match at' ρ i with
    | some l => .rt l (ρ.set i none)
    | none => .st
  | .retN, ρ => .rt (.fro .non) ρ
  | .ite c a b, ρ => (evT Φ c ρ).so fun t ρ1 => if t = true then exSs a ρ1 else exSs b ρ1
  | .whl c b, ρ => whlL (evT Φ c) (exSs b) n ρ
  | .for s t b, ρ => match s with
    | .lock i it => match at' ρ i with
      | some (.own (.dK ks vs)) => lockR i (.own (.dK ks vs)) (forL (bindS (exSs b) t) (if it = true then itemsP ks vs else keysP ks) (ρ.set i (some (.fro (.dK ks vs)))))
      | _ => .st
    | s => (evSrc Φ s ρ).so fun xs ρ1 => forL (bindS (exSs b) t) xs ρ1
  | .brk, ρ => .bk ρ
  | .cont, ρ => .ct ρ
  | .pass, ρ => .nx ρ
  | .raise c, ρ => .ex c ρ
  | .tryx b x i kn s, ρ => tryK x i kn (exSs s) (exSs b ρ)
def exSs : List St → Env → SO
  | [], ρ => .nx ρ
  | s :: ss, ρ => match exS s ρ with
    | .nx ρ1 => exSs ss ρ1
    | r => r
end
end

/-- a def: how many names, how many parameters, its body -/
structure Fn where
  nn : Nat
  np : Nat
  io : List Nat
  body : List St
/-- what is handed on to be written stands at the places that say so -/
def ioOk (io : List Nat) : Nat → List LV → Bool
  | _, [] => true
  | k, .fro _ :: ls => ioOk io (k + 1) ls
  | k, _ :: ls => decide (k ∈ io) && ioOk io (k + 1) ls
def frameOf (f : Fn) (ls : List LV) : Env := ls.map some ++ List.replicate (f.nn - ls.length) none
def lvsOf (ρ : Env) : Nat → Option (List LV)
  | 0 => some []
  | k + 1 => match ρ with
    | some l :: ρ' => (lvsOf ρ' k).map (l :: ·)
    | _ => none
def runFn (Φ : Nat → List LV → CR) (n : Nat) (f : Fn) (ls : List LV) : CR := if ls.length = f.np ∧ f.np ≤ f.nn ∧ ioOk f.io 0 ls = true then match exSs Φ n f.body (frameOf f ls) with
    | .nx ρ => match lvsOf ρ f.np with
      | some as => .ok (.fro .non) as
      | none => .st
    | .rt l ρ => match lvsOf ρ f.np with
      | some as => .ok l as
      | none => .st
    | .ex c ρ => match lvsOf ρ f.np with
      | some as => .ex c as
      | none => .st
    | _ => .st
  else .st
end Br
/-! BrC: what the terms' outcomes say of the model: readings; operations. -/
namespace Br
open PySem PySem.Spec PyProof.Rows L2

/-! ### readings -/
def Post {α : Type} (C : Cb) (W : WX) (σ : L2.St) (F : Hp) (r : ER α) (k : α → Env → Hp → Hp → Prop) : Prop := match r with
  | .ok a ρ => ∀ F' H', Same F F' → SR C F' ρ σ H' → k a ρ F' H'
  | .ex c ρ => ∀ F' H', Same F F' → SR C F' ρ σ H' → W (.ref (He.ga C.K c)) none σ H'
  | .st => False
section
variable {C : Cb} {W : WX} {σ : L2.St} {F F1 H : Hp} {ρ : Env} {α β : Type}
theorem Post.mono {r : ER α} {k : α → Env → Hp → Hp → Prop} (h : Post C W σ F r k) (e : Same F F1) : Post C W σ F1 r k := by
  cases r with
  | ok a ρ => exact fun F' H' e' s => h F' H' (e.trans e') s
  | ex c ρ => exact fun F' H' e' s => h F' H' (e.trans e') s
  | st => exact h
theorem Post.imp {r : ER α} {k k' : α → Env → Hp → Hp → Prop} (h : Post C W σ F r k) (i : ∀ a ρ F' H', Same F F' → SR C F' ρ σ H' → k a ρ F' H' → k' a ρ F' H') : Post C W σ F r k' := by
  cases r with
  | ok a ρ => exact fun F' H' e' s => i _ _ _ _ e' s (h F' H' e' s)
  | ex c ρ => exact fun F' H' e' s => h F' H' e' s
  | st => exact h
theorem Post.bind {r : ER α} {f : α → Env → ER β} {k : β → Env → Hp → Hp → Prop} (h : Post C W σ F (r.bind f) k) : Post C W σ F r fun a ρ1 F1 _ => Post C W σ F1 (f a ρ1) k := by
  cases r with
  | ok a ρ => exact fun F' H' e' s => h.mono e'
  | ex c ρ => exact fun F' H' e' s => h F' H' e' s
  | st => exact h
theorem Post.of {o : Option α} {k : α → Env → Hp → Hp → Prop} (h : Post C W σ F (ER.of o ρ) k) : ∃ a, o = some a ∧ ∀ F' H', Same F F' → SR C F' ρ σ H' → k a ρ F' H' := by
  cases o with
  | none => exact False.elim h
  | some a => exact ⟨a, rfl, h⟩
end

/-- an argument's value -/
def AVR (K : PySem.W.Frag) (F : Hp) (σ : L2.St) : AV → V → Prop
  | .val p, v => Rep K F p v
  | .ref i, v => σ[i]? = some (some v)
def AVRs (K : PySem.W.Frag) (F : Hp) (σ : L2.St) : List AV → List V → Prop
  | [], vs => vs = []
  | a :: as, vs => ∃ v r, vs = v :: r ∧ AVR K F σ a v ∧ AVRs K F σ as r
theorem AVR.mono {K : PySem.W.Frag} {F F' : Hp} {σ : L2.St} (e : Same F F') : ∀ {a : AV} {v : V}, AVR K F σ a v → AVR K F' σ a v
  | .val _, _, h => Rep.mono e h
  | .ref _, _, h => h
theorem AVRs.mono {K : PySem.W.Frag} {F F' : Hp} {σ : L2.St} (e : Same F F') : ∀ {as : List AV} {vs : List V}, AVRs K F σ as vs → AVRs K F' σ as vs
  | [], _, h => h
  | a :: as, _, h => by
    obtain ⟨v, r, h1, h2, h3⟩ := h
    exact ⟨v, r, h1, h2.mono e, AVRs.mono e h3⟩
theorem AVRs.length {K : PySem.W.Frag} {F : Hp} {σ : L2.St} : ∀ {as : List AV} {vs : List V}, AVRs K F σ as vs → as.length = vs.length
  | [], _, h => by rw [show _ = [] from h]; rfl
  | a :: as, _, h => by
    obtain ⟨v, r, rfl, h2, h3⟩ := h
    simp [h3.length]

/-- a value at hand: its object may be our own, its items are frozen -/
def RepR (K : PySem.W.Frag) (F H : Hp) (p : PV) (v : V) : Prop := match p with
  | .lst l => ∃ a xs, v = .ref a ∧ SqE K H a xs ∧ Reps K F l xs
  | .dK ks l => ∃ a xs, v = .ref a ∧ Rd H a (.dK (ks.zip xs)) ∧ ks.length = xs.length ∧ ks.Nodup ∧ Reps K F l xs
  | .dT ks l => ∃ a xs, v = .ref a ∧ Rd H a (.dT (ks.zip xs)) ∧ ks.length = xs.length ∧ ks.Nodup ∧ Reps K F l xs
  | .dX ks l => ∃ (a : Addr) (bs : List Addr) (xs : List V), v = .ref a ∧ Rd H a (dxO a ((ks.map PV.kq).zip (bs.zip xs))) ∧ ks.length = bs.length ∧ ks.length = xs.length ∧ ks.all PV.kok = true ∧ (ks.map PV.kq).Nodup ∧ Reps K F ks (bs.map V.ref) ∧ Reps K F l xs
  | p => Rep K F p v
def RepRs (K : PySem.W.Frag) (F H : Hp) : List PV → List V → Prop
  | [], vs => vs = []
  | p :: ps, vs => ∃ v r, vs = v :: r ∧ RepR K F H p v ∧ RepRs K F H ps r
/-- .. a tuple may be any tuple -/
def RepB (K : PySem.W.Frag) (F H : Hp) (p : PV) (v : V) : Prop := match p with
  | .tup l => ∃ a xs, v = .ref a ∧ SqT K F a xs ∧ Reps K F l xs
  | p => RepR K F H p v
def RepBs (K : PySem.W.Frag) (F H : Hp) : List PV → List V → Prop
  | [], vs => vs = []
  | p :: ps, vs => ∃ v r, vs = v :: r ∧ RepB K F H p v ∧ RepBs K F H ps r
def RepO (K : PySem.W.Frag) (F H : Hp) (b : Bool) (ps : List PV) (vs : List V) : Prop := match b with
  | true => RepRs K F H ps vs
  | false => RepBs K F H ps vs
section
variable {K : PySem.W.Frag} {F F' H H' : Hp}
theorem Rep.b (e : Same F H) {p : PV} {v : V} (h : Rep K F p v) : RepR K F H p v := by
  cases p with
  | lst l => obtain ⟨a, xs, h1, h2, h3⟩ := h; exact ⟨a, xs, h1, Same.sqe e h2, h3⟩
  | dK ks l => obtain ⟨a, xs, h1, h2, h3⟩ := h; exact ⟨a, xs, h1, Rdm e h2, h3⟩
  | dT ks l => obtain ⟨a, xs, h1, h2, h3⟩ := h; exact ⟨a, xs, h1, Rdm e h2, h3⟩
  | dX ks l => obtain ⟨a, bs, xs, h1, h2, h3⟩ := h; exact ⟨a, bs, xs, h1, Rdm e h2, h3⟩
  | _ => exact h
theorem OwnAt.b {p : PV} {a : Addr} (h : OwnAt K F H a p) : RepR K F H p (.ref a) := by
  cases p with
  | lst l => obtain ⟨xs, h1, h2⟩ := h; exact ⟨a, xs, rfl, .inl (.inl h1), h2⟩
  | dK ks l => obtain ⟨xs, h1, h2⟩ := h; exact ⟨a, xs, rfl, .inl h1, h2⟩
  | dT ks l => obtain ⟨xs, h1, h2⟩ := h; exact ⟨a, xs, rfl, .inl h1, h2⟩
  | dX ks l => obtain ⟨bs, xs, h1, h2⟩ := h; exact ⟨a, bs, xs, rfl, .inl h1, h2⟩
  | _ => exact False.elim h
theorem RepR.dn {p : PV} {v : V} (h : RepR K F H p v) : RepB K F H (PV.dn p) v := by
  cases p with
  | xt l => obtain ⟨a, xs, o, h1, h2, h3, h4⟩ := h; exact ⟨a, xs, h1, .inl (.inr ⟨o, h2⟩), h4⟩
  | tup l => obtain ⟨a, xs, h1, h2, h3⟩ := h; exact ⟨a, xs, h1, .inl (.inl h2), h3⟩
  | _ => exact h
theorem RepRs.dn : ∀ {ps : List PV} {vs : List V}, RepRs K F H ps vs → RepBs K F H (ps.map PV.dn) vs
  | [], _, h => h
  | p :: ps, _, h => by
    obtain ⟨v, r, h1, h2, h3⟩ := h
    exact ⟨v, r, h1, h2.dn, RepRs.dn h3⟩
theorem RepR.toB {p : PV} {v : V} (h : RepR K F H p v) : RepB K F H p v := by
  cases p with
  | tup l => obtain ⟨a, xs, h1, h2, h3⟩ := h; exact ⟨a, xs, h1, .inl (.inl h2), h3⟩
  | _ => exact h
theorem RepRs.toB : ∀ {ps : List PV} {vs : List V}, RepRs K F H ps vs → RepBs K F H ps vs
  | [], _, h => h
  | p :: ps, _, h => by
    obtain ⟨v, r, h1, h2, h3⟩ := h
    exact ⟨v, r, h1, h2.toB, RepRs.toB h3⟩
theorem RepRs.toO {b : Bool} {ps : List PV} {vs : List V} (h : RepRs K F H ps vs) : RepO K F H b ps vs := by
  cases b with
  | true => exact h
  | false => exact h.toB
/-- as data read off H -/
theorem RepB.rep (e : Same F H) {p : PV} {v : V} (h : RepB K F H p v) : RepA K H p v := by
  cases p with
  | lst l => obtain ⟨a, xs, h1, h2, h3⟩ := h; exact ⟨a, xs, h1, h2, h3.mono e⟩
  | dK ks l => obtain ⟨a, xs, h1, h2, h3, h4, h5⟩ := h; exact ⟨a, xs, h1, h2, h3, h4, h5.mono e⟩
  | dT ks l => obtain ⟨a, xs, h1, h2, h3, h4, h5⟩ := h; exact ⟨a, xs, h1, h2, h3, h4, h5.mono e⟩
  | dX ks l => obtain ⟨a, bs, xs, h1, h2, h3, h4, h5, h6, h7, h8⟩ := h; exact ⟨a, bs, xs, h1, h2, h3, h4, h5, h6, h7.mono e, h8.mono e⟩
  | tup l => obtain ⟨a, xs, h1, h2, h3⟩ := h; exact ⟨a, xs, h1, Same.sqt e h2, h3.mono e⟩
  | _ => exact Rep.mono e h
end
/-- what an operation tells: something there, or a new object -/
def ResR (K : PySem.W.Frag) (F H : Hp) (nw : Bool) (r : PV) (v : V) (H' : Hp) : Prop :=
  (H' = H ∧ Rep K F r v ∧ (nw = true → r.loose = true)) ∨ (∃ a o, H a = none ∧ v = .ref a ∧ H' = upd H a o ∧ OwnAt K F H' a r) ∨ (∃ a xs l, H a = none ∧ v = .ref a ∧ r = .tup l ∧ H' = upd H a (.tup xs) ∧ Reps K F l xs) ∨ (∃ a xs o l, H a = none ∧ v = .ref a ∧ r = .xt l ∧ o.dict = none ∧ H' = upd H a (.frz o (.tup xs)) ∧ Reps K F l xs) ∨ ∃ a ys l, H a = none ∧ v = .ref a ∧ r = .lst l ∧ H' = upd H a (.lst ys) ∧ l.all PV.keyTup = true ∧ Reps K H l ys
/-- an operation's reading -/
def rOp (K : PySem.W.Frag) (o : Op) (vs : List V) (H : Hp) (Q : VK) : Prop := ∃ F ps r, Same F H ∧ RepO K F H o.raw ps vs ∧ opSem o ps = some r ∧ ∀ v H', ResR K F H o.new r v H' → Q v H'

section
variable {C : Cb} {W : WX} {σ : L2.St} {F F1 H : Hp} {ρ : Env}
theorem AVR.b (s : SR C F ρ σ H) {a : AV} {v : V} {p : PV} (h : AVR C.K F σ a v) (e : a.pv ρ = some p) : RepR C.K F H p v := by
  cases a with
  | val q =>
    cases e
    exact Rep.b s.le h
  | ref i =>
    have h' : σ[i]? = some (some v) := h
    unfold AV.pv at e
    dsimp only at e
    split at e
    · rename_i l hl
      cases l with
      | fro q =>
        cases e
        obtain ⟨w, hw, r⟩ := s.fro hl
        rw [h'] at hw
        cases hw
        exact Rep.b s.le r
      | own q =>
        cases e
        obtain ⟨a, hw, r, _⟩ := s.ownAt hl
        rw [h'] at hw
        cases hw
        exact r.b
      | ins c ns ls => cases e
    · cases e
theorem AVRs.b (s : SR C F ρ σ H) : ∀ {as : List AV} {vs : List V} {ps : List PV}, AVRs C.K F σ as vs → AV.pvs ρ as = some ps → RepRs C.K F H ps vs
  | [], vs, ps, h, e => by
    cases e
    exact h
  | a :: as, vs, ps, h, e => by
    obtain ⟨v, r, rfl, h2, h3⟩ := h
    unfold AV.pvs at e
    split at e
    · rename_i p qs e1 e2
      cases e
      exact ⟨v, r, rfl, h2.b s e1, AVRs.b s h3 e2⟩
    · cases e
theorem reps_flat {K : PySem.W.Frag} {F F' : Hp} : ∀ {l : List PV} {xs : List V}, l.all PV.flat = true → Reps K F l xs → Reps K F' l xs
  | [], _, _, h => h
  | p :: l, _, hf, h => by
    rw [List.all_cons, Bool.and_eq_true] at hf
    obtain ⟨x, r, rfl, h1, h2⟩ := h
    refine ⟨x, r, rfl, ?_, reps_flat hf.2 h2⟩
    cases p with
    | int i => exact h1
    | str i => exact h1
    | _ => cases hf.1
/-- tuples that are keys are frozen -/
theorem SR.freezeR : ∀ {l : List PV} {ys : List V} {F : Hp}, SR C F ρ σ H → l.all PV.keyTup = true → Reps C.K H l ys → ∃ F', Same F F' ∧ SR C F' ρ σ H ∧ Reps C.K F' l ys
  | [], ys, F, s, _, h => ⟨F, Same.refl F, s, h⟩
  | p :: l, _, F, s, hf, h => by
    rw [List.all_cons, Bool.and_eq_true] at hf
    obtain ⟨x, r, rfl, h1, h2⟩ := h
    cases p with
    | tup m =>
      obtain ⟨b, xs, rfl, hb, hx⟩ := h1
      obtain ⟨F1, e1, s1, f1⟩ := s.freezeT hb
      obtain ⟨F2, e2, s2, r2⟩ := SR.freezeR s1 hf.2 h2
      exact ⟨F2, e1.trans e2, s2, .cons ⟨b, xs, rfl, e2 _ _ f1, reps_flat hf.1 hx⟩ r2⟩
    | _ => cases hf.1
/-- what was told is frozen -/
theorem ResR.fro (s : SR C F ρ σ H) {nw : Bool} {r : PV} {v : V} {H' : Hp} (h : ResR C.K F H nw r v H') : ∃ F', Same F F' ∧ SR C F' ρ σ H' ∧ Rep C.K F' r v := by
  rcases h with ⟨rfl, h, _⟩ | ⟨a, o, n, rfl, rfl, h⟩ | ⟨a, xs, l, n, rfl, rfl, rfl, h⟩ | ⟨a, xs, o, l, n, rfl, rfl, hd, rfl, h⟩ | ⟨a, ys, l, n, rfl, rfl, rfl, hk, h⟩
  rotate_left 4
  · obtain ⟨F1, e1, s1, r1⟩ := s.freezeR hk h
    obtain ⟨F2, e2, s2, r2⟩ := (s1.pushNew (p := .lst l) n ⟨ys, upd_same, r1⟩).popOwn
    exact ⟨F2, e1.trans e2, s2, r2⟩
  rotate_left 3
  · have e : Same F (upd F a (.frz o (.tup xs))) := same_updF (s.fnone n)
    exact ⟨_, e, s.alloc n _, a, xs, o, rfl, upd_same, hd, h.mono e⟩
  · exact ⟨F, Same.refl F, s, h⟩
  · have s1 := s.pushNew n h
    exact s1.popOwn
  · have e : Same F (upd F a (.tup xs)) := same_updF (s.fnone n)
    exact ⟨_, e, s.alloc n _, a, xs, rfl, upd_same, h.mono e⟩
/-- .. or kept as our own -/
theorem ResR.own (s : SR C F ρ σ H) {r : PV} {v : V} {H' : Hp} (h : ResR C.K F H true r v H') : ∃ F', Same F F' ∧ SR C F' (some (match r with
      | .lst l => .own (.lst l)
      | .dK ks l => .own (.dK ks l)
      | .dT ks l => .own (.dT ks l)
      | .dX ks l => .own (.dX ks l)
      | p => .fro p) :: ρ) (some v :: σ) H' := by
  rcases h with ⟨rfl, h, hn⟩ | ⟨a, o, n, rfl, rfl, h⟩ | ⟨a, xs, l, n, rfl, rfl, rfl, h⟩ | ⟨a, xs, o, l, n, rfl, rfl, hd, rfl, h⟩ | ⟨a, ys, l, n, rfl, rfl, rfl, hk, h⟩
  rotate_left 4
  · obtain ⟨F1, e1, s1, r1⟩ := s.freezeR hk h
    exact ⟨F1, e1, s1.pushNew n ⟨ys, upd_same, r1⟩⟩
  rotate_left 3
  · have e : Same F (upd F a (.frz o (.tup xs))) := same_updF (s.fnone n)
    exact ⟨_, e, (s.alloc n _).push ⟨a, xs, o, rfl, upd_same, hd, h.mono e⟩⟩
  · refine ⟨F, Same.refl F, ?_⟩
    have hn := hn rfl
    cases r with
    | lst l => cases hn
    | dK ks l => cases hn
    | dT ks l => cases hn
    | dX ks l => cases hn
    | _ => exact s.push h
  · cases r with
    | lst l => exact ⟨F, Same.refl F, s.pushNew n h⟩
    | dK ks l => exact ⟨F, Same.refl F, s.pushNew n h⟩
    | dT ks l => exact ⟨F, Same.refl F, s.pushNew n h⟩
    | dX ks l => exact ⟨F, Same.refl F, s.pushNew n h⟩
    | _ => exact False.elim h
  · have e : Same F (upd F a (.tup xs)) := same_updF (s.fnone n)
    exact ⟨_, e, (s.alloc n _).push ⟨a, xs, rfl, upd_same, h.mono e⟩⟩
end

theorem opX_sem {K : PySem.W.Frag} {F H : Hp} {o : Op} {ps : List PV} {vs : List V} {r : PV} (h : RepRs K F H ps vs) (e : opX o ps = some r) : ∃ ps', RepO K F H o.raw ps' vs ∧ opSem o ps' = some r := by
  unfold opX at e
  by_cases hr : o.raw = true
  · rw [if_pos hr] at e; rw [hr]; exact ⟨ps, h, e⟩
  · rw [if_neg hr] at e
    have hr2 : o.raw = false := by cases z : o.raw with | true => exact absurd z hr | false => rfl
    rw [hr2]
    exact ⟨_, h.dn, e⟩
/-! ### the readings of terms -/
section
variable (C : Cb) (Φ : Nat → List LV → CR) (W : WX)
def tE (e : Ex) : TE := fun σ H Q => ∃ ρ F, SR C F ρ σ H ∧ Post C W σ F (evE Φ e ρ) fun p _ F' H' => ∀ v, Rep C.K F' p v → Q v H'
/-- one argument -/
def tA1 (e : Arg) : TE := fun σ H Q => ∃ ρ F, SR C F ρ σ H ∧ Post C W σ F (evA Φ e ρ) fun a _ F' H' => ∀ v, AVR C.K F' σ a v → Q v H'
def tAs (es : List Arg) : TA := fun σ H Q => ∃ ρ F, SR C F ρ σ H ∧ Post C W σ F (evAs Φ es ρ) fun as _ F' H' => ∀ vs, AVRs C.K F' σ as vs → Q vs H'
def tEs (es : List Ex) : TA := fun σ H Q => ∃ ρ F, SR C F ρ σ H ∧ Post C W σ F (evEs Φ es ρ) fun ps _ F' H' => ∀ vs, Reps C.K F' ps vs → Q vs H'
def tT (c : Tst) : TT := fun σ H Q => ∃ ρ F, SR C F ρ σ H ∧ Post C W σ F (evT Φ c ρ) fun b _ _ H' => Q b H'
end

theorem _root_.L2.PE.weak {X : Cx} {e : Expr} {t t' : TE} (h : PE X e t) (i : ∀ σ H Q, t' σ H Q → t σ H Q) : PE X e t' := ⟨fun pins s σ H Q I q => h.run pins s σ H Q I (i σ H Q q)⟩
theorem _root_.L2.PT.weak {X : Cx} {e : Expr} {t t' : TT} (h : PT X e t) (i : ∀ σ H Q, t' σ H Q → t σ H Q) : PT X e t' := ⟨fun pins s σ H Q I q => h.run pins s σ H Q I (i σ H Q q)⟩
theorem _root_.L2.PW.weak {X : Cx} {e : Expr} {t t' : TT} (h : PW X e t) (i : ∀ σ H Q, t' σ H Q → t σ H Q) : PW X e t' := ⟨fun wh pins s σ H Q I q => h.run wh pins s σ H Q I (i σ H Q q)⟩
theorem _root_.L2.PA.weak {X : Cx} {e : List Expr} {t t' : TA} (h : PA X e t) (i : ∀ σ H Q, t' σ H Q → t σ H Q) : PA X e t' := ⟨fun pos pins s σ H Q I q => h.run pos pins s σ H Q I (i σ H Q q)⟩
theorem _root_.L2.PS.weak {X : Cx} {e : Stmt} {t t' : TS} (h : PS X e t) (i : ∀ D σ H, t' D σ H → t D σ H) : PS X e t' := ⟨fun pins s σ H D I q => h.run pins s σ H D I (i D σ H q)⟩
theorem _root_.L2.PSs.weak {X : Cx} {e : List Stmt} {t t' : TS} (h : PSs X e t) (i : ∀ D σ H, t' D σ H → t D σ H) : PSs X e t' := ⟨fun pins s σ H D I q => h.run pins s σ H D I (i D σ H q)⟩
theorem _root_.L2.PI.weak {X : Cx} {tg e : Expr} {t t' : TI} (h : PI X tg e t) (i : ∀ σ H Q, t' σ H Q → t σ H Q) : PI X tg e t' := ⟨fun pins s σ H Q I q => h.run pins s σ H Q I (i σ H Q q)⟩

section
variable {C : Cb} {Φ : Nat → List LV → CR} {W : WX} {X : Cx}
/-- from a value to an argument -/
theorem tA1_of {e : Ex} {σ : L2.St} {H : Hp} {Q : VK} (q : tA1 C Φ W (.val e) σ H Q) : tE C Φ W e σ H Q := by
  obtain ⟨ρ, F, s, p⟩ := q
  refine ⟨ρ, F, s, ?_⟩
  unfold evA at p
  exact p.bind.imp fun a ρ1 F1 H1 e1 s1 k v r => k F1 H1 (Same.refl F1) s1 v r
theorem tA1_var {i : Nat} {σ : L2.St} {H : Hp} {Q : VK} (q : tA1 C Φ W (.ref i) σ H Q) : tVar i σ H Q := by
  obtain ⟨ρ, F, s, p⟩ := q
  unfold evA at p
  split at p
  · rename_i r hr
    obtain ⟨v, hv, rv⟩ := s.fro hr
    exact ⟨v, hv, p F H (Same.refl F) s v rv⟩
  · rename_i l hl hr
    obtain ⟨v, fp, hv, rv⟩ := s.get hr
    exact ⟨v, hv, p F H (Same.refl F) s v hv⟩
  · exact False.elim p
theorem tE_var {i : Nat} {σ : L2.St} {H : Hp} {Q : VK} (q : tE C Φ W (.var i) σ H Q) : tVar i σ H Q := by
  obtain ⟨ρ, F, s, p⟩ := q
  unfold evE at p
  split at p
  · rename_i r hr
    obtain ⟨v, hv, rv⟩ := s.fro hr
    exact ⟨v, hv, p F H (Same.refl F) s v rv⟩
  · rename_i r hr
    obtain ⟨a, F', hv, e, s', rv⟩ := s.freeze hr
    exact ⟨_, hv, p F' H e s' _ rv⟩
  · exact False.elim p
theorem tAs_nil {σ : L2.St} {H : Hp} {Q : List V → Hp → Prop} (q : tAs C Φ W [] σ H Q) : tNil σ H Q := by
  obtain ⟨ρ, F, s, p⟩ := q
  unfold evAs at p
  exact p F H (Same.refl F) s [] rfl
theorem tAs_cons {e : Arg} {es : List Arg} {σ : L2.St} {H : Hp} {Q : List V → Hp → Prop} (q : tAs C Φ W (e :: es) σ H Q) : tCons (tA1 C Φ W e) (tAs C Φ W es) σ H Q := by
  obtain ⟨ρ, F, s, p⟩ := q
  unfold evAs at p
  refine ⟨ρ, F, s, p.bind.imp fun a ρ1 F1 H1 e1 s1 k v r => ⟨ρ1, F1, s1, k.bind.imp fun as ρ2 F2 H2 e2 s2 k2 vs rs => ?_⟩⟩
  exact k2 F2 H2 (Same.refl F2) s2 (v :: vs) ⟨v, vs, rfl, r.mono e2, rs⟩
theorem tEs_nil {σ : L2.St} {H : Hp} {Q : List V → Hp → Prop} (q : tEs C Φ W [] σ H Q) : tNil σ H Q := by
  obtain ⟨ρ, F, s, p⟩ := q
  unfold evEs at p
  exact p F H (Same.refl F) s [] rfl
theorem tEs_cons {e : Ex} {es : List Ex} {σ : L2.St} {H : Hp} {Q : List V → Hp → Prop} (q : tEs C Φ W (e :: es) σ H Q) : tCons (tE C Φ W e) (tEs C Φ W es) σ H Q := by
  obtain ⟨ρ, F, s, p⟩ := q
  unfold evEs at p
  refine ⟨ρ, F, s, p.bind.imp fun a ρ1 F1 H1 e1 s1 k v r => ⟨ρ1, F1, s1, k.bind.imp fun as ρ2 F2 H2 e2 s2 k2 vs rs => ?_⟩⟩
  exact k2 F2 H2 (Same.refl F2) s2 (v :: vs) (.cons (r.mono e2) rs)
/-- an operation's arguments, then its reading -/
theorem tE_app {o : Op} {es : List Arg} {σ : L2.St} {H : Hp} {Q : VK} (q : tE C Φ W (.app o es) σ H Q) : tAs C Φ W es σ H fun vs H1 => rOp C.K o vs H1 Q := by
  obtain ⟨ρ, F, s, p⟩ := q
  unfold evE at p
  refine ⟨ρ, F, s, p.bind.imp fun as ρ1 F1 H1 e1 s1 k vs r => ?_⟩
  obtain ⟨x, hx, k⟩ := k.of
  obtain ⟨ps, h1, h2⟩ := Option.bind_eq_some_iff.mp hx
  obtain ⟨ps', hb, h2'⟩ := opX_sem (r.b s1 h1) h2
  refine ⟨F1, ps', x, s1.le, hb, h2', fun v H2 h3 => ?_⟩
  obtain ⟨F3, e3, s3, r3⟩ := h3.fro s1
  exact k F3 H2 e3 s3 v r3
/-- a method's receiver, then its arguments -/
theorem tE_mth {o : Op} {a : Arg} {es : List Arg} {σ : L2.St} {H : Hp} {Q : VK} (q : tE C Φ W (.mth o a es) σ H Q) :
    tA1 C Φ W a σ H fun x H1 => (∃ F p, Same F H1 ∧ recvOk o (some p) = true ∧ RepB C.K F H1 p x) ∧ tAs C Φ W es σ H1 fun vs H2 => rOp C.K o (x :: vs) H2 Q := by
  obtain ⟨ρ, F, s, p⟩ := q
  unfold evE at p
  refine ⟨ρ, F, s, p.bind.imp fun av ρ1 F1 H1 e1 s1 k v r => ?_⟩
  split at k
  · rename_i hr
    have hp : ∃ p, av.pv ρ1 = some p := by
      cases e : av.pv ρ1 with
      | none => rw [e] at hr; cases o <;> cases hr
      | some p => exact ⟨p, rfl⟩
    obtain ⟨p1, hp1⟩ := hp
    refine ⟨⟨F1, p1, s1.le, by rw [← hp1]; exact hr, (r.b s1 hp1).toB⟩, ρ1, F1, s1, k.bind.imp fun as ρ2 F2 H2 e2 s2 k2 vs rs => ?_⟩
    obtain ⟨x, hx, k⟩ := k2.of
    obtain ⟨ps, h1, h2⟩ := Option.bind_eq_some_iff.mp hx
    refine ⟨F2, ps, x, s2.le, (AVRs.b s2 (as := av :: as) ⟨v, vs, rfl, r.mono e2, rs⟩ h1).toO, h2, fun v H2 h3 => ?_⟩
    obtain ⟨F3, e3, s3, r3⟩ := h3.fro s2
    exact k F3 H2 e3 s3 v r3
  · exact False.elim k
end
end Br
set_option maxHeartbeats 1000000
/-! BrDk: == of two dicts of ints, and of None and a dict. -/
namespace Br
open PySem PySem.Spec PyProof.Rows L2 PySem.SeqAt
section
variable {P : Program} {w : World} {A : Around} {E : Value → Shared → Prop} {s : Shared}
theorem rc_none_dict {K : Type} [DecidableEq K] {knd : KeyKind P w K} {b : Addr} {kb : List (K × Value)} {Q : Value → Shared → Prop} (db : s.heap.DictOf knd b kb) (hu : A.units < cLine) (h : Q (.bool false) s) :
    wpAny (model P w) A (richCompare .Eq .none (.ref b)) Q E s := by
  refine rc_eq_decline_or (k := false) rfl db.typeIs (by decide) PySem.F.sub_dict_NoneType PySem.F.slot_NoneType_eq PySem.F.slot_dict_eq_refl
    (fun _ hq => call_gives PySem.F.slot_NoneType_eq rfl PySem.F.entry_NoneType_eq (PySem.F.args_NoneType_eq_2 _ _) (NoneType___eq___none_ref_0 b) hq)
    (fun Q' hq => wpAny_call_entry PySem.F.slot_dict_eq_refl db.typeIs PySem.F.entry_dict_eq ?_ (PySem.F.args_dict_eq_2 _ _))
    (fun _ hq => wpAny_of_eq (rfl : isSame .none (.ref b) = pure false) hq) (.inr hu) h
  show wpAny _ _ (Builtin.Dict.dictSlotArgs "__eq__" ⟨[.ref b, .none], []⟩ >>= _) _ _ s
  refine wpAny_bind ?_
  unfold Builtin.Dict.dictSlotArgs
  refine wpAny_bind (wpAny_notOrdered_dict db.typeIs ?_)
  show wpAny _ _ (pure (Value.ref b, Value.none)) _ _ s
  refine wpAny_pure ?_
  refine wpAny_bind (wpAny_isInstance (T := "NoneType") rfl PySem.F.sub_NoneType_dict ?_)
  simp only [Bool.not_false, if_true]
  exact wpAny_bind (wpAny_rule (wpAny_pure ⟨_, rfl, hq⟩))
end
/-- the number at a key -/
theorem iAt_val {κ : Type} [DecidableEq κ] {k : κ} : ∀ (ks : List κ) (ns : List Int), valV (ks.zip (ns.map V.int)) k = (iAt k ks ns).map V.int
  | [], _ => rfl
  | c :: ks, [] => rfl
  | c :: ks, n :: ns => by
    rw [List.map_cons, List.zip_cons_cons]
    unfold iAt valV
    rw [List.find?_cons]
    by_cases e : k = c
    · subst e
      simp
    · have e' : ¬ c = k := fun z => e z.symm
      simp only [e, e', if_false, decide_false]
      exact iAt_val ks ns
theorem hitsI {P : Program} {w : World} {A : Around} {s : Shared} {qs : List Key} {ms : List Int} {kb : List (Key × Value)} (rb : KV (qs.zip (ms.map V.int)) kb) :
    ∀ {ks : List Key} {ns : List Int} {ka : List (Key × Value)} (e : Key → Option Int), KV (ks.zip (ns.map V.int)) ka → ks.length = ns.length → (∀ k i, (k, i) ∈ ks.zip ns → e k = some i) →
      PySem.W.KeqHitsP P w A s kb ka (ks.all fun k => decide (e k = iAt k qs ms))
  | [], _, _, e, ra, _, _ => by cases ra; exact .nil
  | c :: ks, [], _, e, ra, hl, _ => nomatch hl
  | c :: ks, n :: ns, ka, e, ra, hl, he => by
    rw [List.map_cons, List.zip_cons_cons] at ra
    unfold KV at ra
    cases ra with
    | @cons _ q _ qr h t =>
    obtain ⟨key, v⟩ := q
    obtain ⟨h1, h2⟩ := h
    have h1' : c = key := h1
    subst h1'
    obtain ⟨tk, rfl⟩ : ∃ tk, v = .int n tk := h2
    have e0 := he c n (by simp)
    have rr : RelO ((iAt c qs ms).map V.int) (valueAt kb c) := by rw [← iAt_val]; exact rb.val c
    rw [List.all_cons]
    have ih := hitsI (P := P) (w := w) (A := A) (s := s) rb e t (by simpa using hl) (fun k i hm => he k i (by rw [List.zip_cons_cons]; exact List.mem_cons_of_mem _ hm))
    cases hv : iAt c qs ms with
    | none =>
      rw [hv] at rr
      rw [e0, show decide (some n = (none : Option Int)) = false from rfl, Bool.false_and]
      exact .miss (RelO.none_of rr)
    | some m =>
      rw [hv] at rr
      obtain ⟨y, hy, ry⟩ := rr.some_of
      obtain ⟨tm, rfl⟩ : ∃ tk, y = .int m tk := ry
      rw [e0]
      refine .hit hy ?_ ih
      have z : decide (some n = some m) = (n == m) := by
        by_cases c : n = m
        · subst c; simp
        · simp [c]
      rw [z]
      exact (SeqAt.EqAt.int_int n tk m tm).eqP
section
variable {X : Cx}
def rEqK : R2 := fun x y H Q => (∃ a b ks ns qs ms, x = .ref a ∧ y = .ref b ∧ Rd H a (.dK (ks.zip (ns.map V.int))) ∧ Rd H b (.dK (qs.zip (ms.map V.int))) ∧ ks.Nodup ∧ ks.length = ns.length ∧ qs.length = ms.length ∧ Q (.bl (eqIK ks ns qs ms)) H) ∨
  ∃ b kvs, x = .non ∧ y = .ref b ∧ Rd H b (.dK kvs) ∧ Q (.bl false) H
theorem iAt_zip {κ : Type} [DecidableEq κ] {k : κ} {i : Int} : ∀ {ks : List κ} {ns : List Int}, ks.Nodup → (k, i) ∈ ks.zip ns → iAt k ks ns = some i
  | [], _, _, h => nomatch h
  | c :: ks, [], _, h => nomatch h
  | c :: ks, n :: ns, nd, h => by
    obtain ⟨d1, d2⟩ := List.nodup_cons.mp nd
    rw [List.zip_cons_cons] at h
    unfold iAt
    rcases List.mem_cons.mp h with h | h
    · cases h; rw [if_pos rfl]
    · rw [if_neg (fun z : k = c => d1 (by rw [← z]; exact (List.of_mem_zip h).1))]
      exact iAt_zip d2 h
theorem op_eqK (hu : X.A.units + 64 < cLine) : OpR X (compareOp .Eq) rEqK := by
  intro pins s σ H x y v u Q I rx ry h
  rcases h with ⟨a, b, ks, ns, qs, ms, rfl, rfl, ha, hb, nd, l1, l2, q⟩ | ⟨b, kvs, rfl, rfl, hb, q⟩
  · cases (show v = Value.ref a from rx)
    cases (show u = Value.ref b from ry)
    obtain ⟨_, ya, va, ra, da⟩ := (show ObjOk X.prog X.w H s.heap a (.dK _) from ha.ok I.hok)
    obtain ⟨_, yb, vb, rb, db⟩ := (show ObjOk X.prog X.w H s.heap b (.dK _) from hb.ok I.hok)
    refine PySem.W.rcP_dicts (knd := mixKind X.prog X.w) ya yb da db (by omega) (fun _ => hitsI rb (fun k => iAt k ks ns) ra l1 fun k i hm => iAt_zip nd hm) _ _ ?_
    have e1 : va.length = ks.length := by rw [← ra.length]; simp [l1]
    have e2 : vb.length = qs.length := by rw [← rb.length]; simp [l2]
    rw [e1, e2, show (ks.length == qs.length) = decide (ks.length = qs.length) from rfl]
    exact ⟨.bl _, H, I, rfl, q⟩
  · cases (show v = Value.none from rx)
    cases (show u = Value.ref b from ry)
    obtain ⟨_, yb, vb, rb, db⟩ := (show ObjOk X.prog X.w H s.heap b (.dK _) from hb.ok I.hok)
    exact rc_none_dict db (by omega) ⟨.bl false, H, I, rfl, q⟩
end
end Br
set_option maxHeartbeats 1000000
/-! BrD: the operations, by the layer's rules. -/
namespace Br
open PySem PySem.Spec PyProof.Rows L2

section
variable {X : Cx}
theorem OpR.imp {f : Value → Value → Sem Value} {r r' : R2} (h : OpR X f r) (i : ∀ x y H Q, r' x y H Q → r x y H Q) : OpR X f r' :=
  fun pins s σ H x y v u Q I rx ry q => h pins s σ H x y v u Q I rx ry (i x y H Q q)
theorem CallR.imp {f : Value} {r r' : List V → Hp → VK → Prop} (h : CallR X f r) (i : ∀ xs H Q, r' xs H Q → r xs H Q) : CallR X f r' :=
  fun pins s σ H xs us Q I r q => h pins s σ H xs us Q I r (i xs H Q q)
theorem IxR.imp {r r' : R2} (h : IxR X r) (i : ∀ x y H Q, r' x y H Q → r x y H Q) : IxR X r' :=
  fun value slice pins s σ H x y v u Q I rx ry q => h value slice pins s σ H x y v u Q I rx ry (i x y H Q q)
/-- choose the rule by what is asked -/
theorem OpR.pick {f : Value → Value → Sem Value} {r' : R2} (h : ∀ (pins : List (Addr × Obj)) (s : Shared) (σ : L2.St) (H : Hp) (x y : V) (Q : VK), Inv X pins σ H s → r' x y H Q → ∃ r, OpR X f r ∧ r x y H Q) : OpR X f r' :=
  fun pins s σ H x y v u Q I rx ry q => by
    obtain ⟨r, h1, h2⟩ := h pins s σ H x y Q I q
    exact h1 pins s σ H x y v u Q I rx ry h2
theorem CallR.pick {f : Value} {r' : List V → Hp → VK → Prop} (h : ∀ (pins : List (Addr × Obj)) (s : Shared) (σ : L2.St) (H : Hp) (xs : List V) (Q : VK), Inv X pins σ H s → r' xs H Q → ∃ r, CallR X f r ∧ r xs H Q) : CallR X f r' :=
  fun pins s σ H xs us Q I r q => by
    obtain ⟨r1, h1, h2⟩ := h pins s σ H xs Q I q
    exact h1 pins s σ H xs us Q I r h2
end

/-! ### results -/
section
variable {K : PySem.W.Frag} {F H : Hp} {nw : Bool}
theorem ResR.int {i : Int} : ResR K F H nw (.int i) (.int i) H := .inl ⟨rfl, rfl, fun _ => rfl⟩
theorem ResR.bl {i : Bool} : ResR K F H nw (.bl i) (.bl i) H := .inl ⟨rfl, rfl, fun _ => rfl⟩
theorem ResR.str {i : Str} : ResR K F H nw (.str i) (.str i) H := .inl ⟨rfl, rfl, fun _ => rfl⟩
theorem ResR.lst {l : List PV} {xs : List V} {a : Addr} (n : H a = none) (r : Reps K F l xs) : ResR K F H nw (.lst l) (.ref a) (upd H a (.lst xs)) := .inr (.inl ⟨a, _, n, rfl, rfl, xs, upd_same, r⟩)
theorem ResR.tup {l : List PV} {xs : List V} {a : Addr} (n : H a = none) (r : Reps K F l xs) : ResR K F H nw (.tup l) (.ref a) (upd H a (.tup xs)) := .inr (.inr (.inl ⟨a, xs, l, n, rfl, rfl, rfl, r⟩))
theorem ResR.xt0 {l : List PV} {xs : List V} {a : Addr} {o : Obj} (h : F a = some (.frz o (.tup xs))) (hd : o.dict = none) (r : Reps K F l xs) : ResR K F H nw (.xt l) (.ref a) H := .inl ⟨rfl, ⟨a, xs, o, rfl, h, hd, r⟩, fun _ => rfl⟩
theorem ResR.tup0 {l : List PV} {xs : List V} {a : Addr} (h : F a = some (.tup xs)) (r : Reps K F l xs) : ResR K F H nw (.tup l) (.ref a) H := .inl ⟨rfl, ⟨a, xs, rfl, h, r⟩, fun _ => rfl⟩
theorem ResR.any {p : PV} {v : V} (h : Rep K F p v) : ResR K F H false p v H := .inl ⟨rfl, h, fun e => nomatch e⟩
end

/-! ### what is at hand -/
theorem RepBs.one {K : PySem.W.Frag} {F H : Hp} {ps : List PV} {x : V} (h : RepBs K F H ps [x]) : ∃ p, ps = [p] ∧ RepB K F H p x := by
  cases ps with
  | nil => cases h
  | cons p ps =>
    obtain ⟨v, r, e, h1, h2⟩ := h
    cases e
    cases ps with
    | nil => exact ⟨p, rfl, h1⟩
    | cons q qs => obtain ⟨v, r, e, _⟩ := h2; cases e
theorem RepBs.two {K : PySem.W.Frag} {F H : Hp} {ps : List PV} {x y : V} (h : RepBs K F H ps [x, y]) : ∃ p q, ps = [p, q] ∧ RepB K F H p x ∧ RepB K F H q y := by
  cases ps with
  | nil => cases h
  | cons p ps =>
    obtain ⟨v, r, e, h1, h2⟩ := h
    cases e
    obtain ⟨q, rfl, h3⟩ := RepBs.one h2
    exact ⟨p, q, rfl, h1, h3⟩
theorem RepBs.three {K : PySem.W.Frag} {F H : Hp} {ps : List PV} {x y z : V} (h : RepBs K F H ps [x, y, z]) : ∃ p q r, ps = [p, q, r] ∧ RepB K F H p x ∧ RepB K F H q y ∧ RepB K F H r z := by
  cases ps with
  | nil => cases h
  | cons p ps =>
    obtain ⟨v, r, e, h1, h2⟩ := h
    cases e
    obtain ⟨q, t, rfl, h3, h4⟩ := RepBs.two h2
    exact ⟨p, q, t, rfl, h1, h3, h4⟩
theorem RepRs.one {K : PySem.W.Frag} {F H : Hp} {ps : List PV} {x : V} (h : RepRs K F H ps [x]) : ∃ p, ps = [p] ∧ RepR K F H p x := by
  cases ps with
  | nil => cases h
  | cons p ps =>
    obtain ⟨v, r, e, h1, h2⟩ := h
    cases e
    cases ps with
    | nil => exact ⟨p, rfl, h1⟩
    | cons q qs => obtain ⟨v, r, e, _⟩ := h2; cases e
theorem RepRs.two {K : PySem.W.Frag} {F H : Hp} {ps : List PV} {x y : V} (h : RepRs K F H ps [x, y]) : ∃ p q, ps = [p, q] ∧ RepR K F H p x ∧ RepR K F H q y := by
  cases ps with
  | nil => cases h
  | cons p ps =>
    obtain ⟨v, r, e, h1, h2⟩ := h
    cases e
    obtain ⟨q, rfl, h3⟩ := RepRs.one h2
    exact ⟨p, q, rfl, h1, h3⟩
theorem RepRs.three {K : PySem.W.Frag} {F H : Hp} {ps : List PV} {x y z : V} (h : RepRs K F H ps [x, y, z]) : ∃ p q r, ps = [p, q, r] ∧ RepR K F H p x ∧ RepR K F H q y ∧ RepR K F H r z := by
  cases ps with
  | nil => cases h
  | cons p ps =>
    obtain ⟨v, r, e, h1, h2⟩ := h
    cases e
    obtain ⟨q, t, rfl, h3, h4⟩ := RepRs.two h2
    exact ⟨p, q, t, rfl, h1, h3, h4⟩
theorem RepO.one {K : PySem.W.Frag} {F H : Hp} {b : Bool} {ps : List PV} {x : V} (h : RepO K F H b ps [x]) (hb : b = false := by rfl) : ∃ p, ps = [p] ∧ RepB K F H p x := by subst hb; exact RepBs.one h
theorem RepO.two {K : PySem.W.Frag} {F H : Hp} {b : Bool} {ps : List PV} {x y : V} (h : RepO K F H b ps [x, y]) (hb : b = false := by rfl) : ∃ p q, ps = [p, q] ∧ RepB K F H p x ∧ RepB K F H q y := by subst hb; exact RepBs.two h
theorem RepO.three {K : PySem.W.Frag} {F H : Hp} {b : Bool} {ps : List PV} {x y z : V} (h : RepO K F H b ps [x, y, z]) (hb : b = false := by rfl) : ∃ p q r, ps = [p, q, r] ∧ RepB K F H p x ∧ RepB K F H q y ∧ RepB K F H r z := by subst hb; exact RepBs.three h
theorem RepO.twoR {K : PySem.W.Frag} {F H : Hp} {b : Bool} {ps : List PV} {x y : V} (h : RepO K F H b ps [x, y]) (hb : b = true := by rfl) : ∃ p q, ps = [p, q] ∧ RepR K F H p x ∧ RepR K F H q y := by subst hb; exact RepRs.two h
theorem intsOf_eq : ∀ {l : List PV} {ns : List Int}, intsOf l = some ns → l = ns.map PV.int
  | [], ns, h => by cases h; rfl
  | p :: l, ns, h => by
    cases p with
    | int i =>
      obtain ⟨ms, h1, rfl⟩ := Option.map_eq_some_iff.mp (show (intsOf l).map (i :: ·) = some ns from h)
      rw [intsOf_eq h1]
      rfl
    | _ => cases h
theorem blsOf_eq : ∀ {l : List PV} {ns : List Bool}, blsOf l = some ns → l = ns.map PV.bl
  | [], ns, h => by cases h; rfl
  | p :: l, ns, h => by
    cases p with
    | bl i =>
      obtain ⟨ms, h1, rfl⟩ := Option.map_eq_some_iff.mp (show (blsOf l).map (i :: ·) = some ns from h)
      rw [blsOf_eq h1]
      rfl
    | _ => cases h
theorem Reps.bls {K : PySem.W.Frag} {F : Hp} : ∀ {ns : List Bool} {xs : List V}, Reps K F (ns.map PV.bl) xs → xs = ns.map V.bl
  | [], _, h => h
  | n :: ns, _, h => by
    obtain ⟨x, r, rfl, h2, h3⟩ := h
    have h4 : x = .bl n := h2
    rw [h4, Reps.bls h3]
    rfl

/-! ### equality -/
mutual
theorem Rep.dp0 {K : PySem.W.Frag} {F : Hp} : ∀ (n : Nat) (p : PV) (v : V), p.isD n = true → Rep K F p v → Dp K F v p.toD
  | _, .non, v, _, h => by rw [show v = V.non from h]; exact .non
  | _, .bl b, v, _, h => by rw [show v = V.bl b from h]; exact .bl b
  | _, .int i, v, _, h => by rw [show v = V.int i from h]; exact .int i
  | _, .str x, v, _, h => by rw [show v = V.str x from h]; exact .str x
  | n + 1, .tup l, v, d, h => by
    obtain ⟨a, xs, rfl, h1, h2⟩ := h
    exact .tup (.inl (.inl h1)) (Reps.dp n l xs (by unfold PV.isD at d; exact d) h2)
  | n + 1, .lst l, v, d, h => by
    obtain ⟨a, xs, rfl, h1, h2⟩ := h
    exact .lst h1.sql (Reps.dp n l xs (by unfold PV.isD at d; exact d) h2)
  | n + 1, .xt l, v, d, h => by
    obtain ⟨a, xs, o, rfl, h1, _, h2⟩ := h
    exact .tup (.inl (.inr ⟨o, h1⟩)) (Reps.dp n l xs (by unfold PV.isD at d; exact d) h2)
  | 0, .tup l, v, d, h => by simp [PV.isD] at d
  | 0, .xt l, v, d, h => by simp [PV.isD] at d
  | 0, .lst l, v, d, h => by simp [PV.isD] at d
  | n, .ty _, v, d, h => by cases n <;> simp [PV.isD] at d
  | n, .exc _, v, d, h => by cases n <;> simp [PV.isD] at d
  | n, .dK _ _, v, d, h => by cases n <;> simp [PV.isD] at d
  | n, .dT _ _, v, d, h => by cases n <;> simp [PV.isD] at d
  | n, .dX _ _, v, d, h => by cases n <;> simp [PV.isD] at d
  | n, .obj _ _ _, v, d, h => by cases n <;> simp [PV.isD] at d
  | n + 1, .gt l, v, d, h => by
    obtain ⟨a, xs, rfl, h1, h2⟩ := h
    exact .tup h1 (Reps.dp n l xs (by unfold PV.isD at d; exact d) h2)
  | 0, .gt l, v, d, h => by simp [PV.isD] at d
theorem Reps.dp {K : PySem.W.Frag} {F : Hp} : ∀ (n : Nat) (l : List PV) (xs : List V), l.all (PV.isD n) = true → Reps K F l xs → DpAll K F xs (PV.toDs l)
  | _, [], xs, _, h => by rw [show xs = [] from h]; exact .nil
  | n, p :: l, xs, d, h => by
    obtain ⟨x, r, rfl, h1, h2⟩ := h
    rw [List.all_cons, Bool.and_eq_true] at d
    exact .cons (Rep.dp0 n p x d.1 h1) (Reps.dp n l r d.2 h2)
end
theorem Rep.dp {K : PySem.W.Frag} {F : Hp} (n : Nat) (p : PV) (v : V) (d : p.isD n = true) (h : RepA K F p v) : Dp K F v p.toD := by
  cases p with
  | tup l =>
    cases n with
    | zero => simp [PV.isD] at d
    | succ n =>
      obtain ⟨a, xs, rfl, h1, h2⟩ := h
      exact .tup h1 (Reps.dp n l xs (by unfold PV.isD at d; exact d) h2)
  | _ => exact Rep.dp0 n _ v d h
end Br
set_option maxHeartbeats 1000000
/-! BrD2: the operations' rules. -/
namespace Br
open PySem PySem.Spec PyProof.Rows L2

theorem lim_line {n : Nat} (h : n ≤ LIM) : n ≤ sizeLine := by
  rw [sizeLine_eq]
  unfold LIM at h
  omega
theorem canLay_ds {n : Nat} : ∀ (l : List PV), l.all (PV.isD n) = true → (∀ p ∈ l, p.isD n = true → p.toD.canLay0 = true) → PyData.canLayAll0 (PV.toDs l) = true
  | [], _, _ => by simp [PV.toDs, PyData.canLayAll0]
  | p :: l, h, k => by
    rw [List.all_cons, Bool.and_eq_true] at h
    simp only [PV.toDs, PyData.canLayAll0, Bool.and_eq_true]
    exact ⟨k p (by simp) h.1, canLay_ds l h.2 fun q hq => k q (by simp [hq])⟩
theorem canLay_d : ∀ (n : Nat) (p : PV), p.isD n = true → p.toD.canLay0 = true
  | _, .non, _ => by simp [PV.toD, PyData.canLay0]
  | _, .bl b, _ => by simp [PV.toD, PyData.canLay0]
  | _, .int i, _ => by simp [PV.toD, PyData.canLay0]
  | _, .str x, h => by simp only [PV.toD, PyData.canLay0]; unfold PV.isD at h; exact h
  | n + 1, .tup l, h => by
    simp only [PV.toD, PyData.canLay0]
    unfold PV.isD at h
    exact canLay_ds l h fun p _ hp => canLay_d n p hp
  | n + 1, .xt l, h => by
    simp only [PV.toD, PyData.canLay0]
    unfold PV.isD at h
    exact canLay_ds l h fun p _ hp => canLay_d n p hp
  | n + 1, .lst l, h => by
    simp only [PV.toD, PyData.canLay0]
    unfold PV.isD at h
    exact canLay_ds l h fun p _ hp => canLay_d n p hp
  | 0, .tup l, d => by simp [PV.isD] at d
  | 0, .xt l, d => by simp [PV.isD] at d
  | 0, .lst l, d => by simp [PV.isD] at d
  | n, .ty _, d => by cases n <;> simp [PV.isD] at d
  | n, .exc _, d => by cases n <;> simp [PV.isD] at d
  | n, .dK _ _, d => by cases n <;> simp [PV.isD] at d
  | n, .dT _ _, d => by cases n <;> simp [PV.isD] at d
  | n, .dX _ _, d => by cases n <;> simp [PV.isD] at d
  | n, .obj _ _ _, d => by cases n <;> simp [PV.isD] at d
  | n + 1, .gt l, h => by
    simp only [PV.toD, PyData.canLay0]
    unfold PV.isD at h
    exact canLay_ds l h fun p _ hp => canLay_d n p hp
  | 0, .gt l, d => by simp [PV.isD] at d
theorem depth_ds {n : Nat} : ∀ (l : List PV), l.all (PV.isD n) = true → (∀ p ∈ l, p.isD n = true → p.toD.depth ≤ n) → PyData.depthAll (PV.toDs l) ≤ n
  | [], _, _ => by simp [PV.toDs, PyData.depthAll]
  | p :: l, h, k => by
    rw [List.all_cons, Bool.and_eq_true] at h
    simp only [PV.toDs, PyData.depthAll]
    have h1 := k p (by simp) h.1
    have h2 := depth_ds l h.2 fun q hq => k q (by simp [hq])
    omega
theorem depth_d : ∀ (n : Nat) (p : PV), p.isD n = true → p.toD.depth ≤ n
  | _, .non, _ => by simp [PV.toD, PyData.depth]
  | _, .bl b, _ => by simp [PV.toD, PyData.depth]
  | _, .int i, _ => by simp [PV.toD, PyData.depth]
  | _, .str x, h => by simp [PV.toD, PyData.depth]
  | n + 1, .tup l, h => by
    simp only [PV.toD, PyData.depth]
    unfold PV.isD at h
    have := depth_ds l h fun p _ hp => depth_d n p hp
    omega
  | n + 1, .xt l, h => by
    simp only [PV.toD, PyData.depth]
    unfold PV.isD at h
    have := depth_ds l h fun p _ hp => depth_d n p hp
    omega
  | n + 1, .lst l, h => by
    simp only [PV.toD, PyData.depth]
    unfold PV.isD at h
    have := depth_ds l h fun p _ hp => depth_d n p hp
    omega
  | 0, .tup l, d => by simp [PV.isD] at d
  | 0, .xt l, d => by simp [PV.isD] at d
  | 0, .lst l, d => by simp [PV.isD] at d
  | n, .ty _, d => by cases n <;> simp [PV.isD] at d
  | n, .exc _, d => by cases n <;> simp [PV.isD] at d
  | n, .dK _ _, d => by cases n <;> simp [PV.isD] at d
  | n, .dT _ _, d => by cases n <;> simp [PV.isD] at d
  | n, .dX _ _, d => by cases n <;> simp [PV.isD] at d
  | n, .obj _ _ _, d => by cases n <;> simp [PV.isD] at d
  | n + 1, .gt l, h => by
    simp only [PV.toD, PyData.depth]
    unfold PV.isD at h
    have := depth_ds l h fun p _ hp => depth_d n p hp
    omega
  | 0, .gt l, d => by simp [PV.isD] at d
theorem shaped_d {p : PV} (h : p.isD 60 = true) : SeqAt.shaped p.toD = true := by
  unfold SeqAt.shaped
  rw [canLay_d 60 p h, Bool.true_and]
  exact decide_eq_true (Nat.le_trans (depth_d 60 p h) (by decide))

section
variable {X : Cx}
abbrev R2of (K : PySem.W.Frag) (o : Op) : R2 := fun x y H Q => rOp K o [x, y] H Q
theorem or_eq (hu : X.A.units + 64 < cLine) : OpR X (compareOp .Eq) (R2of X.K .eq) := by
  refine OpR.pick fun pins s σ H x y Q I h => ?_
  obtain ⟨F, ps, r, e, hb, ho, q⟩ := h
  obtain ⟨p, t, rfl, h1, h2⟩ := hb.two
  simp only [opSem] at ho
  unfold eqOP at ho
  split at ho
  · rename_i a b hab
    cases hab
    cases ho
    rw [show x = V.str a from h1, show y = V.str b from h2]
    refine ⟨_, op_eq, rfl, ?_⟩
    have e2 : decide (V.str a = V.str b) = decide (a = b) := by simp
    rw [e2]
    exact q _ _ .bl
  · rename_i a b _ hab
    cases hab
    split at ho
    · rename_i hd
      cases ho
      exact ⟨_, op_eqD hu, _, _, Rep.dp 60 _ x hd.1 (h1.rep e), Rep.dp 60 _ y hd.2 (h2.rep e), shaped_d hd.1, shaped_d hd.2, q _ _ .bl⟩
    · unfold eqKP at ho
      split at ho
      · rename_i ks vs qs ws _ _
        obtain ⟨ns, hn, ho⟩ := Option.bind_eq_some_iff.mp ho
        obtain ⟨ms, hm, ho⟩ := Option.map_eq_some_iff.mp ho
        subst ho
        obtain ⟨c, xs, rfl, hc, hl, nd, rc⟩ := h1
        obtain ⟨d, ys, rfl, hd, hl2, nd2, rd⟩ := h2
        rw [intsOf_eq hn] at rc
        rw [intsOf_eq hm] at rd
        rw [Reps.ints rc] at hc hl
        rw [Reps.ints rd] at hd hl2
        exact ⟨_, op_eqK hu, .inl ⟨c, d, ks, ns, qs, ms, rfl, rfl, hc, hd, nd, by simpa using hl, by simpa using hl2, q _ _ .bl⟩⟩
      · cases ho
        obtain ⟨d, ys, rfl, hd, hl2, nd2, rd⟩ := h2
        exact ⟨_, op_eqK hu, .inr ⟨d, _, (show x = V.non from h1), rfl, hd, q _ _ .bl⟩⟩
      · cases ho
  · cases ho
theorem or_ne (hu : X.A.units + 64 < cLine) : OpR X (compareOp .NotEq) (R2of X.K .ne) := by
  refine OpR.pick fun pins s σ H x y Q I h => ?_
  obtain ⟨F, ps, r, e, hb, ho, q⟩ := h
  obtain ⟨p, t, rfl, h1, h2⟩ := hb.two
  simp only [opSem] at ho
  unfold neOP at ho
  split at ho
  · rename_i a b hab
    cases hab
    cases ho
    rw [show x = V.str a from h1, show y = V.str b from h2]
    refine ⟨_, op_ne, rfl, ?_⟩
    have e2 : decide (V.str a = V.str b) = decide (a = b) := by simp
    rw [e2]
    exact q _ _ .bl
  · rename_i a b _ hab
    cases hab
    split at ho
    · rename_i hd
      cases ho
      exact ⟨_, op_neD hu, _, _, Rep.dp 60 _ x hd.1 (h1.rep e), Rep.dp 60 _ y hd.2 (h2.rep e), shaped_d hd.1, shaped_d hd.2, q _ _ .bl⟩
    · cases ho
  · cases ho
theorem or_gt : OpR X (compareOp .Gt) (R2of X.K .gt) := by
  refine OpR.imp op_gt fun x y H Q h => ?_
  obtain ⟨F, ps, r, e, hb, ho, q⟩ := h
  obtain ⟨p, t, rfl, h1, h2⟩ := hb.two
  simp only [opSem] at ho
  unfold gtOP at ho
  split at ho
  · rename_i a b hab
    cases hab
    cases ho
    exact ⟨_, _, h1, h2, q _ _ .bl⟩
  · cases ho
theorem or_isNN : OpR X (compareOp .IsNot) (fun x y H Q => y = .non ∧ rOp X.K .isNN [x] H Q) := by
  refine OpR.imp op_notN fun x y H Q h => ?_
  obtain ⟨rfl, F, ps, r, e, hb, ho, q⟩ := h
  obtain ⟨p, rfl, h1⟩ := hb.one
  simp only [opSem, isNNP] at ho
  cases ho
  refine ⟨rfl, ?_⟩
  have e2 : decide (x = V.non) = p.isNon := by
    cases p with
    | non => rw [show x = V.non from h1]; rfl
    | bl b => rw [show x = V.bl b from h1]; rfl
    | int b => rw [show x = V.int b from h1]; rfl
    | str b => rw [show x = V.str b from h1]; rfl
    | ty b => rw [show x = V.ty b from h1]; rfl
    | exc c => obtain ⟨a, oe, vs, rfl, _⟩ := h1; rfl
    | tup l => obtain ⟨a, xs, rfl, _⟩ := h1; rfl
    | lst l => obtain ⟨a, xs, rfl, _⟩ := h1; rfl
    | xt l => obtain ⟨a, xs, o, rfl, _⟩ := h1; rfl
    | dK ks l => obtain ⟨a, xs, rfl, _⟩ := h1; rfl
    | dT ks l => obtain ⟨a, xs, rfl, _⟩ := h1; rfl
    | dX ks l => obtain ⟨a, bs, xs, rfl, _⟩ := h1; rfl
    | obj c ns l => obtain ⟨a, dx, xs, rfl, _⟩ := h1; rfl
    | gt l => obtain ⟨a, xs, rfl, _⟩ := h1; rfl
  rw [e2]
  exact q _ _ .bl
theorem or_isNB {b : Bool} : OpR X (compareOp .IsNot) (fun x y H Q => y = .bl b ∧ rOp X.K (.isNB b) [x] H Q) := by
  refine OpR.imp op_isnot_bl fun x y H Q h => ?_
  obtain ⟨rfl, F, ps, r, e, hb, ho, q⟩ := h
  obtain ⟨p, rfl, h1⟩ := hb.one
  simp only [opSem] at ho
  unfold isNBP at ho
  split at ho
  · rename_i c hc
    cases hc
    cases ho
    refine ⟨c, b, h1, rfl, ?_⟩
    rw [show (!decide (c = b)) = (!(c == b)) from by cases c <;> cases b <;> rfl]
    exact q _ _ .bl
  · cases ho

/-! ### arithmetic -/
/-- list + list, whatever they are -/
def rCatL (K : PySem.W.Frag) : R2 := fun x y H Q => ∃ l b xs zs, x = .ref l ∧ y = .ref b ∧ SqE K H l xs ∧ SqE K H b zs ∧ xs.length + zs.length ≤ sizeLine ∧ ∀ p, H p = none → Q (.ref p) (upd H p (.lst (xs ++ zs)))
theorem Inv.rd {pins : List (Addr × Obj)} {σ : L2.St} {H : Hp} {s : Shared} {l : Addr} {xs : List V} (I : Inv X pins σ H s) (h : SqE X.K H l xs) :
    ∃ (its : List Value) (n : Nat), Vals xs its ∧ xs.length = its.length ∧ xs.length ≤ sizeLine ∧ s.heap.get? l = some { cls := .type "list", data := .seq its.toArray n } := by
  rcases h with h | ⟨its, n, hk, hz, r⟩
  · obtain ⟨z, its, n, r, e⟩ := (h.ok I.hok : ObjOk X.prog X.w H s.heap l (.lst xs))
    exact ⟨its, n, r, r.length, z, e⟩
  · have hl := r.length
    have hl2 : its.toList.length = its.size := Array.length_toList
    exact ⟨its.toList, n, r, r.length, by omega, I.kIn _ _ hk⟩
theorem op_catL : OpR X (binaryOp .Add) (rCatL X.K) := by
  intro pins s σ H x y v u Q I rx ry h
  obtain ⟨l, b, xs, zs, rfl, rfl, hH, hB, hz, q⟩ := h
  cases rx
  cases ry
  obtain ⟨its, n, r, hl, z, pl⟩ := Inv.rd I hH
  obtain ⟨its2, n2, r2, hl2, z2, pl2⟩ := Inv.rd I hB
  refine PySem.P.add_list pl pl2 ?_ (by rw [List.size_toArray, List.size_toArray]; omega)
  have ea : its.toArray ++ its2.toArray = (its ++ its2).toArray := by simp
  rw [ea]
  exact ⟨.ref _, _, I.lnew (t' := s.toks) (r.append r2) (by rw [List.length_append]; omega), rfl, q _ I.fresh⟩
theorem or_add : OpR X (binaryOp .Add) (R2of X.K .add) := by
  refine OpR.pick fun pins s σ H x y Q I h => ?_
  obtain ⟨F, ps, r, e, hb, ho, q⟩ := h
  obtain ⟨p, t, rfl, h1, h2⟩ := hb.twoR
  simp only [opSem] at ho
  unfold addP at ho
  split at ho
  · rename_i a b hab
    cases hab
    cases ho
    exact ⟨_, op_add, _, _, h1, h2, q _ _ .int⟩
  · rename_i a b hab
    cases hab
    split at ho
    · rename_i hz
      cases ho
      exact ⟨_, op_add_str, _, _, h1, h2, lim_line hz, q _ _ .str⟩
    · cases ho
  · rename_i a b hab
    cases hab
    split at ho
    · rename_i hz
      cases ho
      obtain ⟨c, xs, rfl, hc, rc⟩ := h1
      obtain ⟨d, ys, rfl, hd, rd⟩ := h2
      exact ⟨_, op_catL, c, d, xs, ys, rfl, rfl, hc, hd, by rw [← rc.length, ← rd.length]; exact lim_line hz, fun p hp => q _ _ (.lst hp (rc.append rd))⟩
    · cases ho
  · rename_i a b hab
    cases hab
    split at ho
    · rename_i hz
      cases ho
      obtain ⟨c, xs, rfl, hc, rc⟩ := h1
      obtain ⟨d, ys, rfl, hd, rd⟩ := h2
      refine ⟨_, op_catA, c, d, xs, ys, rfl, rfl, .inl (.inl (e _ _ hc)), .inl (.inl (e _ _ hd)), by rw [← rc.length, ← rd.length]; exact lim_line hz, fun hx => ?_, fun hx hy => ?_, fun hx hy p hp => q _ _ (.tup hp (rc.append rd))⟩
      · subst hx
        have : a = [] := List.eq_nil_of_length_eq_zero (by rw [rc.length]; rfl)
        subst this
        exact q _ _ (.tup0 hd rd)
      · subst hy
        have : b = [] := List.eq_nil_of_length_eq_zero (by rw [rd.length]; rfl)
        subst this
        rw [List.append_nil] at q
        exact q _ _ (.tup0 hc rc)
    · cases ho
  · rename_i a b hab
    cases hab
    split at ho
    · rename_i hz
      cases ho
      obtain ⟨c, xs, o1, rfl, hc, _, rc⟩ := h1
      obtain ⟨d, ys, rfl, hd, rd⟩ := h2
      refine ⟨_, op_catA, c, d, xs, ys, rfl, rfl, .inl (.inr ⟨o1, e _ _ hc⟩), .inl (.inl (e _ _ hd)), by rw [← rc.length, ← rd.length]; exact lim_line hz.2.2, fun hx => ?_, fun hx hy => ?_, fun hx hy p hp => q _ _ (.tup hp (rc.append rd))⟩
      · subst hx
        exact absurd (List.eq_nil_of_length_eq_zero (by rw [rc.length]; rfl)) hz.1
      · subst hy
        exact absurd (List.eq_nil_of_length_eq_zero (by rw [rd.length]; rfl)) hz.2.1
    · cases ho
  · rename_i a b hab
    cases hab
    split at ho
    · rename_i hz
      cases ho
      obtain ⟨c, xs, rfl, hc, rc⟩ := h1
      obtain ⟨d, ys, o2, rfl, hd, _, rd⟩ := h2
      refine ⟨_, op_catA, c, d, xs, ys, rfl, rfl, .inl (.inl (e _ _ hc)), .inl (.inr ⟨o2, e _ _ hd⟩), by rw [← rc.length, ← rd.length]; exact lim_line hz.2.2, fun hx => ?_, fun hx hy => ?_, fun hx hy p hp => q _ _ (.tup hp (rc.append rd))⟩
      · subst hx
        exact absurd (List.eq_nil_of_length_eq_zero (by rw [rc.length]; rfl)) hz.1
      · subst hy
        exact absurd (List.eq_nil_of_length_eq_zero (by rw [rd.length]; rfl)) hz.2.1
    · cases ho
  · rename_i a b hab
    cases hab
    split at ho
    · rename_i hz
      cases ho
      obtain ⟨c, xs, o1, rfl, hc, _, rc⟩ := h1
      obtain ⟨d, ys, o2, rfl, hd, _, rd⟩ := h2
      refine ⟨_, op_catA, c, d, xs, ys, rfl, rfl, .inl (.inr ⟨o1, e _ _ hc⟩), .inl (.inr ⟨o2, e _ _ hd⟩), by rw [← rc.length, ← rd.length]; exact lim_line hz.2.2, fun hx => ?_, fun hx hy => ?_, fun hx hy p hp => q _ _ (.tup hp (rc.append rd))⟩
      · subst hx
        exact absurd (List.eq_nil_of_length_eq_zero (by rw [rc.length]; rfl)) hz.1
      · subst hy
        exact absurd (List.eq_nil_of_length_eq_zero (by rw [rd.length]; rfl)) hz.2.1
    · cases ho
  · cases ho
theorem or_sub : OpR X (binaryOp .Sub) (R2of X.K .sub) := by
  refine OpR.imp op_sub fun x y H Q h => ?_
  obtain ⟨F, ps, r, e, hb, ho, q⟩ := h
  obtain ⟨p, t, rfl, h1, h2⟩ := hb.two
  simp only [opSem] at ho
  unfold subP at ho
  split at ho
  · rename_i a b hab
    cases hab
    cases ho
    exact ⟨_, _, h1, h2, q _ _ .int⟩
  · cases ho
theorem mulOk.ok {i j : Int} (h : mulOk i j) : IntMulOk i j := by
  rcases h with h | h | h
  · exact CMul.ok (.inl (by omega))
  · exact CMul.ok (.inr (by omega))
  · have b : ∀ x : Int, Builtin.Int.intBits x ≤ x.natAbs.log2 + 1 := fun x => by
      unfold Builtin.Int.intBits
      split <;> omega
    have h1 := b i
    have h2 := b j
    have e : bitsLine = 134217728 := by decide
    unfold IntMulOk Builtin.Int.intTooBig
    have h5 : ¬ (((Builtin.Int.intBits i + Builtin.Int.intBits j : Nat) : Int) > (bitsLine : Int)) := by omega
    simp only [Bool.and_eq_true, decide_eq_true_eq]
    intro h6
    exact h5 (by have := h6.2; push_cast at this ⊢; omega)
theorem op_mulA : OpR X (binaryOp .Mult) (rI mulOk fun i j => .int (i * j)) := opI fun _ _ _ _ _ _ _ hc q => mul_int q hc.ok
theorem Reps.rep {K : PySem.W.Frag} {F : Hp} {l : List PV} {xs : List V} (h : Reps K F l xs) : ∀ k : Nat, Reps K F (List.replicate k l).flatten (List.replicate k xs).flatten
  | 0 => .nil
  | k + 1 => by
    rw [List.replicate_succ, List.replicate_succ, List.flatten_cons, List.flatten_cons]
    exact h.append (h.rep k)
def rRepL (K : PySem.W.Frag) : R2 := fun x y H Q => ∃ l k xs, x = .ref l ∧ y = .int k ∧ SqE K H l xs ∧ -(2 ^ 63) ≤ k ∧ k < 2 ^ 63 ∧ xs.length * k.toNat ≤ sizeLine ∧
  ∀ p, H p = none → Q (.ref p) (upd H p (.lst (List.replicate k.toNat xs).flatten))
theorem op_repL : OpR X (binaryOp .Mult) (rRepL X.K) := by
  intro pins s σ H x y v u Q I rx ry h
  obtain ⟨l, k, xs, rfl, rfl, hH, h1, h2, hz, q⟩ := h
  cases rx
  obtain ⟨t, rfl⟩ := ry
  obtain ⟨its, n, r, hl, z, e⟩ := Inv.rd I hH
  have hlen : its.toArray.size * k.toNat ≤ sizeLine := by rw [List.size_toArray, ← hl]; exact hz
  have hcap : ¬ its.toArray.size * k.toNat > (2 ^ 63 - 1) / 8 := by
    have : (sizeLine : Nat) ≤ (2 ^ 63 - 1) / 8 := by decide
    omega
  have hfit : ¬ (!Builtin.List.listFitsIndex k) = true := by
    rw [fitsIndex_both h1 h2]
    exact Bool.false_ne_true
  have hlong : ¬ Builtin.List.listTooLong (its.toArray.size * k.toNat) = true := by
    rw [notLongL hlen]
    exact Bool.false_ne_true
  have hnew : List.foldl (fun x1 x2 => x1 ++ x2) #[] (List.replicate (if its.toArray.isEmpty = true then 0 else k.toNat) its.toArray) = (List.replicate k.toNat its).flatten.toArray := by
    have f0 : ∀ m : Nat, List.foldl (fun x1 x2 => x1 ++ x2) #[] (List.replicate m its.toArray) = (List.replicate m its).flatten.toArray := fun m => by
      have := foldl_rep its m []
      rw [List.nil_append] at this
      exact this
    rw [f0]
    cases its with
    | nil => simp
    | cons a r' => rw [if_neg (by simp)]
  refine wpAny_binaryOp_repeat_ref (T := "list") (U := "int") (by decide) ⟨_, e, rfl⟩ (fun s' => typeIs_int s' k t) noFill_list_mul F.fills_int_mul F.slot_int_rmul repeat_list F.slot_int_index.lookup
    (call_meets F.slot_int_rmul (typeIs_int s k t) F.entry_int_rmul (F.args_int_rmul_2 _ _) (int___rmul___int_list k t l its.toArray n)
      ⟨e, rfl, ⟨_, e, rfl⟩, call_meets F.slot_list_mul ⟨_, e, rfl⟩ F.entry_list_mul (F.args_list_mul_2 _ _) (AutoListH.list___mul___list_int_3 l its.toArray n k t hfit hcap hlong) ⟨e, ?_⟩⟩)
  rw [hnew]
  exact ⟨.ref _, _, I.lnew (t' := s.toks) (r.rep k.toNat) (by rw [PyProof.Rows.lm_len_rep_flat, Nat.mul_comm]; exact hz), rfl, q _ I.fresh⟩
theorem tuple_mul1 (l : Addr) (items : Array Value) (n : Nat) (dd : Option Addr) (sl : Array (Option Value)) (u : Tok) :
    Meets (Builtin.«tuple.__mul__» ⟨[.ref l, .int 1 u], []⟩) (fun _ R s => s.heap.get? l = some { cls := .type "tuple", dict := dd, data := .seq items n, slots := sl } ∧
      R (.ok (.ret (Value.ref l))) s) :=
  .of_wp fun prog w A R s h => by
    obtain ⟨hp, g, d, tk, os⟩ := s
    obtain ⟨hl, h⟩ := h
    have f1 := AutoSeq1.idx_int
    wp_walk using wpAny_loadPart' hl
    exact ⟨_, rfl, h⟩
theorem tuple_mul0 (l : Addr) (items : Array Value) (n : Nat) (dd : Option Addr) (sl : Array (Option Value)) (u : Tok) (c1 : (items.isEmpty || (0 : Int) == 1) = false) :
    Meets (Builtin.«tuple.__mul__» ⟨[.ref l, .int 0 u], []⟩) (fun _ R s => s.heap.get? l = some { cls := .type "tuple", dict := dd, data := .seq items n, slots := sl } ∧
      R (.ok (.ret (Value.ref s.heap.objs.size))) { s with heap := s.heap.push { cls := Value.type "tuple", data := Data.seq #[] }, toks := s.toks }) :=
  .of_wp fun prog w A R s h => by
    obtain ⟨hp, g, d, tk, os⟩ := s
    obtain ⟨hl, h⟩ := h
    have f1 := AutoSeq1.idx_int
    wp_walk using wpAny_loadPart' hl
    repeat (first
      | (refine wpAny_ite_false (decide_eq_false (by rw [c1]; exact Bool.false_ne_true)) ?_; wp_walk using wpAny_loadPart' hl))
    exact ⟨_, rfl, h⟩
/-- t * 0 -/
def rRep0 (K : PySem.W.Frag) : R2 := fun x y H Q => ∃ l xs, x = .ref l ∧ y = .int 0 ∧ SqT K H l xs ∧ xs ≠ [] ∧ ∀ p, H p = none → Q (.ref p) (upd H p (.tup []))
theorem op_rep0 : OpR X (binaryOp .Mult) (rRep0 X.K) := by
  intro pins s σ H x y v u Q I rx ry h
  obtain ⟨l, xs, rfl, rfl, hT, hne, q⟩ := h
  cases rx
  obtain ⟨t, rfl⟩ := ry
  obtain ⟨its, r, ⟨⟨cls, dd, data, sl⟩, ho, hc, n, hd⟩, hs⟩ := I.tuple hT
  simp only at hc hd
  subst hc hd
  have hi : its.toArray.isEmpty = false := by
    cases its with
    | nil => exact absurd (List.eq_nil_of_length_eq_zero (by rw [r.length]; rfl)) hne
    | cons a b => rfl
  refine wpAny_binaryOp_repeat_ref (T := "tuple") (U := "int") (by decide) ⟨_, ho, rfl⟩ (fun s' => typeIs_int s' 0 t) noFill_tuple_mul F.fills_int_mul F.slot_int_rmul repeat_tuple F.slot_int_index.lookup
    (call_meets F.slot_int_rmul (typeIs_int s 0 t) F.entry_int_rmul (F.args_int_rmul_2 _ _) (int_rmul_tuple 0 t l its.toArray n dd sl)
      ⟨ho, rfl, ⟨_, ho, rfl⟩, call_meets F.slot_tuple_mul ⟨_, ho, rfl⟩ F.entry_tuple_mul (F.args_tuple_mul_2 _ _) (tuple_mul0 l its.toArray n dd sl t (by rw [hi]; rfl)) ⟨ho, ?_⟩⟩)
  refine ⟨.ref s.heap.objs.size, _, I.laid (t' := s.toks) (o := .tup []) (fun b ob q => Heap.get?_push_of_some _ q) (Nat.le_refl _) ?_, rfl, q _ (I.hok.fresh (Nat.le_refl _))⟩
  exact ⟨Nat.zero_le _, [], .nil, IsTup.new _ _⟩
/-- (x,) * k, k from 2 to a million -/
def rRepO (K : PySem.W.Frag) : R2 := fun x y H Q => ∃ l k xs, x = .ref l ∧ y = .int k ∧ SqT K H l xs ∧ xs.length = 1 ∧ 2 ≤ k ∧ k ≤ 1000000 ∧ ∀ p, H p = none → Q (.ref p) (upd H p (.tup (List.replicate k.toNat xs).flatten))
theorem op_repO : OpR X (binaryOp .Mult) (rRepO X.K) := by
  intro pins s σ H x y v u Q I rx ry h
  obtain ⟨l, k, xs, rfl, rfl, hT, h0, h1, h2, q⟩ := h
  cases rx
  obtain ⟨t, rfl⟩ := ry
  obtain ⟨its, r, ⟨⟨cls, dd, data, sl⟩, ho, hc, n, hd⟩, hs⟩ := I.tuple hT
  simp only at hc hd
  subst hc hd
  have hle : its.length = 1 := by rw [← r.length, h0]
  obtain ⟨i0, rfl⟩ : ∃ i0, its = [i0] := List.length_eq_one_iff.mp hle
  have e1 : (((#[i0] : Array Value).size : Nat) : Int) * k = k := by simp
  have fl : (List.replicate k.toNat [i0]).flatten.length = k.toNat := by rw [PyProof.Rows.lm_len_rep_flat]; simp
  have fx : (List.replicate k.toNat xs).flatten.length = k.toNat := by rw [PyProof.Rows.lm_len_rep_flat, h0]; simp
  have c0 : (decide (k < -(2 ^ 63)) || decide (k ≥ 2 ^ 63)) = false := by
    rw [decide_eq_false (by omega), decide_eq_false (by omega)]; rfl
  have c1 : ((#[i0] : Array Value).isEmpty || k == 1) = false := by
    rw [show (#[i0] : Array Value).isEmpty = false from rfl, Bool.false_or]
    exact beq_eq_false_iff_ne.mpr (by omega)
  have c2 : (decide (k ≤ 0) || (#[i0] : Array Value).isEmpty) = false := by
    rw [show (#[i0] : Array Value).isEmpty = false from rfl, Bool.or_false]
    exact decide_eq_false (by omega)
  have c4 : Builtin.Tuple.tupleTooMany ((((#[i0] : Array Value).size : Nat) : Int) * k) = false := by
    rw [e1]
    unfold Builtin.Tuple.tupleTooMany
    rw [sizeLine_eq]
    exact decide_eq_false (by omega)
  have c3 : ¬ (((#[i0] : Array Value).size : Nat) : Int) * k > (2 ^ 63 - 1) / 8 := by rw [e1]; omega
  have sr := size_rep [i0] k.toNat
  refine wpAny_binaryOp_repeat_ref (T := "tuple") (U := "int") (by decide) ⟨_, ho, rfl⟩ (fun s' => typeIs_int s' k t) noFill_tuple_mul F.fills_int_mul F.slot_int_rmul repeat_tuple F.slot_int_index.lookup
    (call_meets F.slot_int_rmul (typeIs_int s k t) F.entry_int_rmul (F.args_int_rmul_2 _ _) (int_rmul_tuple k t l #[i0] n dd sl)
      ⟨ho, rfl, ⟨_, ho, rfl⟩, call_meets F.slot_tuple_mul ⟨_, ho, rfl⟩ F.entry_tuple_mul (F.args_tuple_mul_2 _ _) (tuple_mulW l #[i0] n dd sl k t c0 c1 c2 c3 c4 (by
        show (List.foldl (fun x1 x2 => x1 ++ x2) #[] (List.replicate k.toNat [i0].toArray)).size ≤ sizeLine
        rw [sr, List.size_toArray, fl, sizeLine_eq]
        omega)) ⟨ho, ?_⟩⟩)
  show ∃ _, _
  rw [show List.foldl (fun x1 x2 => x1 ++ x2) #[] (List.replicate k.toNat (#[i0] : Array Value)) = (List.replicate k.toNat [i0]).flatten.toArray from sr]
  refine ⟨.ref s.heap.objs.size, _, I.laid (t' := s.toks) (o := .tup (List.replicate k.toNat xs).flatten) (fun b ob q => Heap.get?_push_of_some _ q) (Nat.le_refl _) ?_, rfl, q _ (I.hok.fresh (Nat.le_refl _))⟩
  exact ⟨by rw [fx, sizeLine_eq]; omega, _, r.rep k.toNat, IsTup.new _ _⟩
def rRepA (K : PySem.W.Frag) : R2 := fun x y H Q => ∃ l k xs, x = .ref l ∧ y = .int k ∧ SqT K H l xs ∧ xs ≠ [] ∧ 1 ≤ k ∧ k ≤ 1000 ∧ xs.length ≤ 1000 ∧ (k = 1 → Q (.ref l) H) ∧ ∀ p, H p = none → Q (.ref p) (upd H p (.tup (List.replicate k.toNat xs).flatten))
theorem op_repA : OpR X (binaryOp .Mult) (rRepA X.K) := by
  intro pins s σ H x y v u Q I rx ry h
  obtain ⟨l, k, xs, rfl, rfl, hT, hne, h1, h2, hz, q1, q⟩ := h
  by_cases hk : k = 1
  · subst hk
    cases rx
    obtain ⟨t, rfl⟩ := ry
    obtain ⟨its, r, ⟨⟨cls, dd, data, sl⟩, ho, hc, n, hd⟩, hs⟩ := I.tuple hT
    simp only at hc hd
    subst hc hd
    exact wpAny_binaryOp_repeat_ref (T := "tuple") (U := "int") (by decide) ⟨_, ho, rfl⟩ (fun s' => typeIs_int s' 1 t) noFill_tuple_mul F.fills_int_mul F.slot_int_rmul repeat_tuple F.slot_int_index.lookup
      (call_meets F.slot_int_rmul (typeIs_int s 1 t) F.entry_int_rmul (F.args_int_rmul_2 _ _) (int_rmul_tuple 1 t l its.toArray n dd sl)
        ⟨ho, rfl, ⟨_, ho, rfl⟩, call_meets F.slot_tuple_mul ⟨_, ho, rfl⟩ F.entry_tuple_mul (F.args_tuple_mul_2 _ _) (tuple_mul1 l its.toArray n dd sl t) ⟨ho, ⟨.ref l, H, I, rfl, q1 rfl⟩⟩⟩)
  · exact op_repT pins s σ H _ _ v u Q I rx ry ⟨l, k, xs, rfl, rfl, hT, hne, by omega, h2, hz, q⟩
theorem foldl_repA (a : Array Nat) : ∀ (m : Nat) (acc : List Nat), List.foldl (fun x1 x2 => x1 ++ x2) acc.toArray (List.replicate m a) = (acc ++ (List.replicate m a.toList).flatten).toArray
  | 0, acc => by simp
  | m + 1, acc => by
    rw [List.replicate_succ, List.foldl_cons, List.replicate_succ, List.flatten_cons, ← List.append_assoc, ← foldl_repA a m (acc ++ a.toList)]
    congr 1
    simp
theorem op_mulStr : OpR X (binaryOp .Mult) (fun x y H Q => ∃ z b, x = V.str z ∧ y = V.int b ∧ 2 ≤ b ∧ b ≤ 1000 ∧ 1 ≤ z.length ∧ z.length ≤ 1000 ∧ Q (.str ⟨(List.replicate b.toNat z.cps.toList).flatten.toArray⟩) H) := by
  intro pins s σ H x y v u Q I rx ry h
  obtain ⟨z, b, rfl, rfl, h1, h2, h3, h4, q⟩ := h
  obtain ⟨t, rfl⟩ := rx
  obtain ⟨t2, rfl⟩ := ry
  have hc : ¬ ((b == 1 || z.length == 0) = true) := by
    rw [Bool.or_eq_true, beq_iff_eq, beq_iff_eq]
    omega
  have hlen : z.length * b.toNat ≤ 1000000 := by
    have : z.length * b.toNat ≤ 1000 * 1000 := Nat.mul_le_mul h4 (by omega)
    omega
  refine PySem.P.mul_str (by
      have e1 : ¬ b < -(2 ^ 63 : Int) := by omega
      have e2 : ¬ b ≥ 2 ^ 63 := by omega
      rw [decide_eq_false e1, decide_eq_false e2]; rfl) (fun _ _ => ?_) (fun _ _ => ?_) ?_
  · have : (1000 : Int) ≤ (2 ^ 63 - 1) / b := by
      rw [Int.le_ediv_iff_mul_le (by omega)]
      omega
    omega
  · exact decide_eq_false (by have := lim_line (n := z.length * b.toNat) hlen; omega)
  · rw [if_neg (by omega), if_neg hc]
    have e : List.foldl (fun x1 x2 => x1 ++ x2) #[] (List.replicate b.toNat z.cps) = (List.replicate b.toNat z.cps.toList).flatten.toArray := by
      have := foldl_repA z.cps b.toNat []
      rw [List.nil_append] at this
      exact this
    rw [e]
    refine ⟨?_, .str _, H, I.tok _, ⟨_, rfl⟩, q⟩
    show (List.replicate b.toNat z.cps.toList).flatten.toArray.size ≤ _
    rw [List.size_toArray, PyProof.Rows.lm_len_rep_flat, Array.length_toList, Nat.mul_comm]
    exact lim_line hlen
theorem or_mul : OpR X (binaryOp .Mult) (R2of X.K .mul) := by
  refine OpR.pick fun pins s σ H x y Q I h => ?_
  obtain ⟨F, ps, r, e, hb, ho, q⟩ := h
  obtain ⟨p, t, rfl, h1, h2⟩ := hb.twoR
  simp only [opSem] at ho
  unfold mulP at ho
  split at ho
  · rename_i a b hab
    cases hab
    split at ho
    · rename_i hm
      cases ho
      exact ⟨_, op_mulA, _, _, h1, h2, hm, q _ _ .int⟩
    · cases ho
  · rename_i a b hab
    cases hab
    split at ho
    · rename_i hm
      cases ho
      exact ⟨_, op_mulStr, _, _, h1, h2, hm.1, hm.2.1, hm.2.2.1, hm.2.2.2, q _ _ .str⟩
    · cases ho
  · rename_i l b hab
    cases hab
    split at ho
    · rename_i hm
      cases ho
      obtain ⟨c, xs, rfl, hc, rc⟩ := h1
      have hx := rc.length.symm
      have hb' : b < 2 ^ 63 := by have := hm.2.1; unfold LIM at this; omega
      refine ⟨_, op_repL, c, b, xs, rfl, h2, hc, by have := hm.1; omega, hb', ?_, fun p hp => q _ _ (.lst hp (rc.rep _))⟩
      rw [hx]
      rcases hm.2.2 with h1 | h1
      · rw [h1, Nat.one_mul]
        have := hm.2.1
        exact lim_line (by unfold LIM at this ⊢; omega)
      · exact lim_line h1
    · cases ho
  · rename_i l b hab
    cases hab
    split at ho
    · rename_i hm
      cases ho
      obtain ⟨c, xs, rfl, hc, rc⟩ := h1
      have hx := rc.length.symm
      refine ⟨_, op_repA, c, b, xs, rfl, h2, .inl (.inl (e _ _ hc)), ?_, hm.1, hm.2.1, by have := hm.2.2.2; omega, ?_, fun p hp => q _ _ (.tup hp (rc.rep _))⟩
      · intro e
        subst e
        have := hm.2.2.1
        rw [List.length_nil] at hx
        exact this (List.eq_nil_of_length_eq_zero (by omega))
      · intro e1
        subst e1
        refine q _ _ ?_
        have e2 : (List.replicate (1 : Int).toNat l).flatten = l := by
          show (List.replicate 1 l).flatten = l
          simp
        rw [e2]
        exact .tup0 hc rc
    · rename_i hn
      split at ho
      · rename_i hm
        cases ho
        obtain ⟨c, xs, rfl, hc, rc⟩ := h1
        have hx := rc.length.symm
        have hb2 : 1000 < b := by
          by_cases z : b ≤ 1000
          · exact absurd ⟨hm.1, z, (fun e0 => by rw [e0] at hm; simp at hm), by omega⟩ hn
          · omega
        exact ⟨_, op_repO, c, b, xs, rfl, h2, .inl (.inl (e _ _ hc)), by omega, by omega, hm.2.1, fun p hp => q _ _ (.tup hp (rc.rep _))⟩
      · split at ho
        · rename_i hm
          cases ho
          obtain ⟨c, xs, rfl, hc, rc⟩ := h1
          have hx := rc.length.symm
          obtain ⟨rfl, hl⟩ := hm
          refine ⟨_, op_rep0, c, xs, rfl, h2, .inl (.inl (e _ _ hc)), fun e1 => ?_, fun p hp => q _ _ (.tup hp rfl)⟩
          subst e1
          exact hl (List.eq_nil_of_length_eq_zero (by rw [rc.length]; rfl))
        · cases ho
  · cases ho
theorem op_fdivA : OpR X (binaryOp .FloorDiv) (rI (fun _ j => 0 < j ∧ j.natAbs.log2 < 9000) fun i j => .int (i / j)) := opI fun i j _ _ _ _ _ hc q => by
  have h1 : (0 : Int) < j := hc.1
  exact floordiv_int (by omega) (by rw [Int.fdiv_eq_ediv_of_nonneg i (by omega)]; exact q) (.inl (PyProof.noPylong_of_log2 hc.2))
theorem op_fdivM : OpR X (binaryOp .FloorDiv) (rI (fun _ j => j < 0 ∧ j.natAbs.log2 < 9000) fun i j => .int (i.fdiv j)) := opI fun i j _ _ _ _ _ hc q => by
  have h1 : j < (0 : Int) := hc.1
  exact floordiv_int (by omega) q (.inl (PyProof.noPylong_of_log2 hc.2))
theorem or_fdiv : OpR X (binaryOp .FloorDiv) (R2of X.K .fdiv) := by
  refine OpR.pick fun pins s σ H x y Q I h => ?_
  obtain ⟨F, ps, r, e, hb, ho, q⟩ := h
  obtain ⟨p, t, rfl, h1, h2⟩ := hb.two
  simp only [opSem] at ho
  unfold fdivP at ho
  split at ho
  · rename_i a b hab
    cases hab
    split at ho
    · rename_i hm
      cases ho
      exact ⟨_, op_fdivA, _, _, h1, h2, hm, q _ _ .int⟩
    · split at ho
      · rename_i hm
        cases ho
        exact ⟨_, op_fdivM, _, _, h1, h2, hm, q _ _ .int⟩
      · cases ho
  · cases ho
theorem or_mod : OpR X (binaryOp .Mod) (R2of X.K .mod) := by
  refine OpR.imp op_mod fun x y H Q h => ?_
  obtain ⟨F, ps, r, e, hb, ho, q⟩ := h
  obtain ⟨p, t, rfl, h1, h2⟩ := hb.two
  simp only [opSem] at ho
  unfold modP at ho
  split at ho
  · rename_i a b hab
    cases hab
    split at ho
    · rename_i hm
      cases ho
      exact ⟨_, _, h1, h2, hm, q _ _ .int⟩
    · cases ho
  · cases ho
theorem or_pow : OpR X (binaryOp .Pow) (R2of X.K .pow) := by
  refine OpR.imp op_pow fun x y H Q h => ?_
  obtain ⟨F, ps, r, e, hb, ho, q⟩ := h
  obtain ⟨p, t, rfl, h1, h2⟩ := hb.two
  simp only [opSem] at ho
  unfold powP at ho
  split at ho
  · rename_i a b hab
    cases hab
    split at ho
    · rename_i hm
      cases ho
      exact ⟨_, _, h1, h2, hm, q _ _ .int⟩
    · cases ho
  · cases ho
theorem ur_neg : UnR X (unaryOp .USub) (fun x H Q => rOp X.K .neg [x] H Q) := by
  intro pins s σ H x v Q I rx h
  obtain ⟨F, ps, r, e, hb, ho, q⟩ := h
  obtain ⟨p, rfl, h1⟩ := hb.one
  simp only [opSem] at ho
  unfold negP at ho
  split at ho
  · rename_i a hab
    cases hab
    cases ho
    exact un_neg pins s σ H x v Q I rx ⟨a, h1, q _ _ .int⟩
  · cases ho
end
end Br
set_option maxHeartbeats 1000000
/-! BrD3: built-in functions, subscripts. -/
namespace Br
open PySem PySem.Spec PyProof.Rows L2

section
variable {X : Cx}
abbrev RCof (K : PySem.W.Frag) (o : Op) : List V → Hp → VK → Prop := fun xs H Q => rOp K o xs H Q
theorem rOp_one {K : PySem.W.Frag} {o : Op} {xs : List V} {H : Hp} {Q : VK} (h : rOp K o xs H Q) (h1 : ∀ ps, ps.length ≠ 1 → opSem o ps = none) (hr : o.raw = false := by rfl) : ∃ x F p r, xs = [x] ∧ Same F H ∧ RepB K F H p x ∧ opSem o [p] = some r ∧ ∀ v H', ResR K F H o.new r v H' → Q v H' := by
  obtain ⟨F, ps, r, e, hb, ho, q⟩ := h
  rw [hr] at hb
  have hl : ps.length = 1 := by
    by_cases h : ps.length = 1
    · exact h
    · rw [h1 ps h] at ho; cases ho
  match ps, hl with
  | [p], _ =>
    obtain ⟨v, r', rfl, h2, h3⟩ := hb
    rw [show r' = [] from h3]
    exact ⟨v, F, p, r, rfl, e, h2, ho, q⟩
theorem rOp_oneR {K : PySem.W.Frag} {o : Op} {xs : List V} {H : Hp} {Q : VK} (h : rOp K o xs H Q) (h1 : ∀ ps, ps.length ≠ 1 → opSem o ps = none) (hr : o.raw = true := by rfl) : ∃ x F p r, xs = [x] ∧ Same F H ∧ RepR K F H p x ∧ opSem o [p] = some r ∧ ∀ v H', ResR K F H o.new r v H' → Q v H' := by
  obtain ⟨F, ps, r, e, hb, ho, q⟩ := h
  rw [hr] at hb
  have hl : ps.length = 1 := by
    by_cases h : ps.length = 1
    · exact h
    · rw [h1 ps h] at ho; cases ho
  match ps, hl with
  | [p], _ =>
    obtain ⟨v, r', rfl, h2, h3⟩ := hb
    rw [show r' = [] from h3]
    exact ⟨v, F, p, r, rfl, e, h2, ho, q⟩
theorem rOp_two {K : PySem.W.Frag} {o : Op} {xs : List V} {H : Hp} {Q : VK} (h : rOp K o xs H Q) (h1 : ∀ ps, ps.length ≠ 2 → opSem o ps = none) (hr : o.raw = false := by rfl) : ∃ x y F p t r, xs = [x, y] ∧ Same F H ∧ RepB K F H p x ∧ RepB K F H t y ∧ opSem o [p, t] = some r ∧ ∀ v H', ResR K F H o.new r v H' → Q v H' := by
  obtain ⟨F, ps, r, e, hb, ho, q⟩ := h
  rw [hr] at hb
  have hl : ps.length = 2 := by
    by_cases h : ps.length = 2
    · exact h
    · rw [h1 ps h] at ho; cases ho
  match ps, hl with
  | [p, t], _ =>
    obtain ⟨v, r', rfl, h2, v2, r2, rfl, h3, h4⟩ := hb
    rw [show r2 = [] from h4]
    exact ⟨v, v2, F, p, t, r, rfl, e, h2, h3, ho, q⟩
theorem len1 {f : List PV → Option PV} (h0 : f [] = none) (h2 : ∀ a b c, f (a :: b :: c) = none) : ∀ ps : List PV, ps.length ≠ 1 → f ps = none
  | [], _ => h0
  | [a], h => absurd rfl h
  | a :: b :: c, _ => h2 a b c
theorem len2 {f : List PV → Option PV} (h0 : f [] = none) (h1 : ∀ a, f [a] = none) (h2 : ∀ a b c d, f (a :: b :: c :: d) = none) : ∀ ps : List PV, ps.length ≠ 2 → f ps = none
  | [], _ => h0
  | [a], h => h1 a
  | [a, b], h => absurd rfl h
  | a :: b :: c :: d, _ => h2 a b c d

theorem cr_lenD : CallR X (.builtin "len") (fun xs H Q => ∃ a kvs, xs = [.ref a] ∧ Rd H a (.dK kvs) ∧ Q (.int kvs.length) H) := by
  intro pins s σ H xs us Q I r h
  obtain ⟨a, kvs, rfl, e, q⟩ := h
  rw [Vals.ref1 r]
  exact d_len I e fun t s' I' => ⟨.int _, H, I', ⟨_, rfl⟩, q⟩
theorem cr_len : CallR X (.builtin "len") (RCof X.K .len) := by
  refine CallR.pick fun pins s σ H xs Q I h => ?_
  obtain ⟨x, F, p, r, rfl, e, h1, ho, q⟩ := rOp_one h (len1 rfl fun a b c => by cases a <;> rfl)
  simp only [opSem] at ho
  unfold lenP at ho
  split at ho
  · rename_i l hl
    cases hl
    cases ho
    obtain ⟨c, xs, rfl, hc, rc⟩ := h1
    exact ⟨_, call_len, _, _, rfl, .inl ⟨xs, hc.sql, rfl⟩, by rw [← rc.length]; exact q _ _ .int⟩
  · rename_i l hl
    cases hl
    cases ho
    obtain ⟨c, xs, rfl, hc, rc⟩ := h1
    exact ⟨_, call_len, _, _, rfl, .inr ⟨xs, Same.sqt e hc, rfl⟩, by rw [← rc.length]; exact q _ _ .int⟩
  · rename_i ks vs hl
    cases hl
    cases ho
    obtain ⟨c, xs, rfl, hc, hl, _, rc⟩ := h1
    refine ⟨_, cr_lenD, c, ks.zip xs, rfl, hc, ?_⟩
    rw [List.length_zip, ← hl, Nat.min_self]
    exact q _ _ .int
  · rename_i y hl
    cases hl
    split at ho
    · rename_i hz
      cases ho
      rw [show x = V.str y from h1]
      exact ⟨_, call_len, _, _, rfl, ⟨lim_line hz, rfl⟩, q _ _ .int⟩
    · cases ho
  · cases ho
theorem cr_abs : CallR X (.builtin "abs") (RCof X.K .abs) := by
  refine CallR.imp call_abs fun xs H Q h => ?_
  obtain ⟨x, F, p, r, rfl, e, h1, ho, q⟩ := rOp_one h (len1 rfl fun a b c => by cases a <;> rfl)
  simp only [opSem] at ho
  unfold absP at ho
  split at ho
  · rename_i l hl
    cases hl
    cases ho
    rw [show x = V.int l from h1]
    exact ⟨l, rfl, q _ _ .int⟩
  · cases ho
theorem cr_min2 (hc : X.calm = true) : CallR X (.builtin "min") (RCof X.K .min2) := by
  refine CallR.imp (call_min2 hc) fun xs H Q h => ?_
  obtain ⟨x, y, F, p, t, r, rfl, e, h1, h2, ho, q⟩ := rOp_two h (len2 rfl (fun a => by cases a <;> rfl) fun a b c d => by cases a <;> cases b <;> rfl)
  simp only [opSem] at ho
  unfold min2P at ho
  split at ho
  · rename_i a b hl
    cases hl
    cases ho
    rw [show x = V.int a from h1, show y = V.int b from h2]
    exact ⟨a, b, rfl, q _ _ .int⟩
  · cases ho
theorem cr_max2 (hc : X.calm = true) : CallR X (.builtin "max") (RCof X.K .max2) := by
  refine CallR.imp (call_max2 hc) fun xs H Q h => ?_
  obtain ⟨x, y, F, p, t, r, rfl, e, h1, h2, ho, q⟩ := rOp_two h (len2 rfl (fun a => by cases a <;> rfl) fun a b c d => by cases a <;> cases b <;> rfl)
  simp only [opSem] at ho
  unfold max2P at ho
  split at ho
  · rename_i a b hl
    cases hl
    cases ho
    rw [show x = V.int a from h1, show y = V.int b from h2]
    exact ⟨a, b, rfl, q _ _ .int⟩
  · cases ho
theorem fold_min : ∀ (ns : List Int) (n : Int), (ns.foldl (fun a b => if b < a then b else a) n ∈ n :: ns) ∧ ∀ y ∈ n :: ns, ns.foldl (fun a b => if b < a then b else a) n ≤ y
  | [], n => ⟨by simp, by simp⟩
  | m :: ns, n => by
    rw [List.foldl_cons]
    by_cases hmn : m < n
    · rw [if_pos hmn]
      obtain ⟨h1, h2⟩ := fold_min ns m
      refine ⟨by rcases List.mem_cons.mp h1 with h | h <;> simp [h], fun y hy => ?_⟩
      have h3 := h2 m (by simp)
      rcases List.mem_cons.mp hy with rfl | hy
      · omega
      · exact h2 y hy
    · rw [if_neg hmn]
      obtain ⟨h1, h2⟩ := fold_min ns n
      refine ⟨by rcases List.mem_cons.mp h1 with h | h <;> simp [h], fun y hy => ?_⟩
      have h3 := h2 n (by simp)
      rcases List.mem_cons.mp hy with rfl | hy
      · exact h3
      · rcases List.mem_cons.mp hy with rfl | hy
        · omega
        · exact h2 y (by simp [hy])
theorem cr_minL (hc : X.calm = true) : CallR X (.builtin "min") (RCof X.K .minL) := by
  refine CallR.imp (cr_min hc) fun xs H Q h => ?_
  obtain ⟨x, F, p, r, rfl, e, h1, ho, q⟩ := rOp_one h (len1 rfl fun a b c => by cases a <;> rfl)
  simp only [opSem] at ho
  unfold minLP at ho
  split at ho
  · rename_i l hl
    cases hl
    obtain ⟨ns, hn, ho⟩ := Option.bind_eq_some_iff.mp ho
    obtain ⟨m, hm, rfl⟩ := Option.map_eq_some_iff.mp ho
    rw [intsOf_eq hn] at h1
    obtain ⟨c, xs, rfl, hc2, rc⟩ := h1
    rw [rc.ints] at hc2
    cases ns with
    | nil => cases hm
    | cons n ns =>
      cases hm
      refine ⟨c, n :: ns, rfl, hc2.sql, by simp, fun m h3 h4 => ?_⟩
      obtain ⟨k1, k2⟩ := fold_min ns n
      have e1 := h4 _ k1
      have e2 := k2 _ h3
      rw [show m = ns.foldl (fun a b => if b < a then b else a) n from by omega]
      exact q _ _ .int
  · cases ho
theorem cr_int1 : CallR X (.type "int") (RCof X.K .int1) := by
  refine CallR.imp call_int1 fun xs H Q h => ?_
  obtain ⟨x, F, p, r, rfl, e, h1, ho, q⟩ := rOp_one h (len1 rfl fun a b c => by cases a <;> rfl)
  simp only [opSem] at ho
  unfold int1P at ho
  split at ho
  · rename_i a hl
    cases hl
    cases ho
    rw [show x = V.int a from h1]
    exact .inl ⟨a, rfl, q _ _ .int⟩
  · rename_i a hl
    cases hl
    cases ho
    rw [show x = V.bl a from h1]
    exact .inr ⟨a, rfl, q _ _ .int⟩
  · cases ho
theorem cr_str1 : CallR X (.type "str") (RCof X.K .str1) := by
  refine CallR.imp call_str_int fun xs H Q h => ?_
  obtain ⟨x, F, p, r, rfl, e, h1, ho, q⟩ := rOp_one h (len1 rfl fun a b c => by cases a <;> rfl)
  simp only [opSem] at ho
  unfold str1P at ho
  split at ho
  · rename_i a hl
    cases hl
    split at ho
    · rename_i hz
      cases ho
      rw [show x = V.int a from h1]
      exact ⟨a, rfl, hz, q _ _ .str⟩
    · cases ho
  · cases ho
theorem cr_tuple1 : CallR X (.type "tuple") (RCof X.K .tuple1) := by
  refine CallR.imp call_tuple_of fun xs H Q h => ?_
  obtain ⟨x, F, p, r, rfl, e, h1, ho, q⟩ := rOp_oneR h (len1 rfl fun a b c => by cases a <;> rfl)
  simp only [opSem] at ho
  unfold tuple1P at ho
  split at ho
  · rename_i a hl
    cases hl
    cases ho
    obtain ⟨c, xs, rfl, hc, rc⟩ := h1
    exact ⟨c, xs, rfl, .inl ⟨hc.sql, fun l hl => q _ _ (.tup hl rc)⟩⟩
  · rename_i a hl
    cases hl
    cases ho
    obtain ⟨c, xs, rfl, hc, rc⟩ := h1
    exact ⟨c, xs, rfl, .inr ⟨.inl (.inl (e _ _ hc)), q _ _ (.tup0 hc rc)⟩⟩
  · rename_i a hl
    cases hl
    cases ho
    obtain ⟨c, xs, o1, rfl, hc, hd, rc⟩ := h1
    exact ⟨c, xs, rfl, .inr ⟨.inl (.inr ⟨o1, e _ _ hc⟩), q _ _ (.inl ⟨rfl, ⟨c, xs, o1, rfl, hc, hd, rc⟩, fun _ => rfl⟩)⟩⟩
  · cases ho
theorem cr_list1 : CallR X (.type "list") (RCof X.K .list1) := by
  refine CallR.imp call_list_of fun xs H Q h => ?_
  obtain ⟨x, F, p, r, rfl, e, h1, ho, q⟩ := rOp_one h (len1 rfl fun a b c => by cases a <;> rfl)
  simp only [opSem] at ho
  unfold list1P at ho
  split at ho
  · rename_i a hl
    cases hl
    cases ho
    obtain ⟨c, xs, rfl, hc, rc⟩ := h1
    exact ⟨c, xs, rfl, .inl hc.sql, fun l hl => q _ _ (.lst hl rc)⟩
  · rename_i a hl
    cases hl
    cases ho
    obtain ⟨c, xs, rfl, hc, rc⟩ := h1
    exact ⟨c, xs, rfl, .inr (Same.sqt e hc), fun l hl => q _ _ (.lst hl rc)⟩
  · cases ho
theorem insI_perm (x : Int) : ∀ l : List Int, (insI x l).Perm (x :: l)
  | [] => List.Perm.refl _
  | y :: ys => by
    unfold insI
    split
    · exact List.Perm.refl _
    · exact ((insI_perm x ys).cons y).trans (List.Perm.swap x y ys)
theorem sortI_perm : ∀ l : List Int, (sortI l).Perm l
  | [] => List.Perm.refl _
  | x :: xs => (insI_perm x _).trans ((sortI_perm xs).cons x)
theorem insI_sorted (x : Int) : ∀ l : List Int, l.Pairwise (· ≤ ·) → (insI x l).Pairwise (· ≤ ·)
  | [], _ => by simp [insI]
  | y :: ys, h => by
    unfold insI
    have h' := List.pairwise_cons.mp h
    split
    · rename_i hxy
      refine List.pairwise_cons.mpr ⟨fun z hz => ?_, h⟩
      rcases List.mem_cons.mp hz with rfl | hz
      · exact hxy
      · exact Int.le_trans hxy (h'.1 z hz)
    · rename_i hxy
      refine List.pairwise_cons.mpr ⟨fun z hz => ?_, insI_sorted x ys h'.2⟩
      rcases List.mem_cons.mp ((insI_perm x ys).mem_iff.mp hz) with rfl | hz
      · omega
      · exact h'.1 z hz
theorem sortI_sorted : ∀ l : List Int, (sortI l).Pairwise (· ≤ ·)
  | [] => List.Pairwise.nil
  | x :: xs => insI_sorted x _ (sortI_sorted xs)
theorem intKeys_eq : ∀ {ks : List Key} {ns : List Int}, intKeys ks = some ns → ks = ns.map Sum.inl
  | [], ns, h => by cases h; rfl
  | .inl i :: ks, ns, h => by
    obtain ⟨ms, h1, rfl⟩ := Option.map_eq_some_iff.mp (show (intKeys ks).map (i :: ·) = some ns from h)
    rw [intKeys_eq h1]
    rfl
  | .inr x :: ks, ns, h => by cases h
/-- sorted(t), t a tuple of ints -/
theorem cr_sortedIT : CallR X (.builtin "sorted") (fun vs H Q => ∃ (a : Addr) (ns : List Int), vs = [V.ref a] ∧ SqT X.K H a (ns.map V.int) ∧
    ∀ (ns' : List Int) (p : Addr), ns'.Perm ns → ns'.Pairwise (· ≤ ·) → H p = none → Q (.ref p) (upd H p (.lst (ns'.map V.int)))) := by
  intro pins s σ H vs us Q I r h
  obtain ⟨a, ns, rfl, hs, q⟩ := h
  obtain ⟨its, rv, ⟨⟨cls, dd, data, sl⟩, ho, hc, n, hd⟩, hz⟩ := I.tuple hs
  simp only at hc hd
  subst hc hd
  rw [Vals.ref1 r]
  have hi := rv.ints
  refine Calls.call_function_entry PyProof.Rows.kind_sorted PyProof.Rows.plain_sorted PyProof.Rows.entry_sorted (PyProof.Rows.args_sorted1 _) ?_
  unfold Builtin.«sorted»
  refine wpAny_bind (m := checkCount "sorted" 1 1 _) (wpAny_pure ?_)
  refine wpAny_bind (wpAny_collect_seq a (.inr rfl) ho rfl rfl (fun h' hk => ?_) (by rw [List.size_toArray]; rw [rv.length] at hz; exact hz))
  have I1 : Inv X pins σ H { s with heap := h', toks := s.toks } := I.kept hk
  have hz' : its.length ≤ sizeLine := by rw [rv.length] at hz; exact hz
  refine wpAny_bind (wpAny_newList ?_ hz')
  have hoL : (h'.push (seqObj "list" its.toArray 0)).get? h'.objs.size = some (seqObj "list" its.toArray 0) := Heap.get?_push_size _ rfl
  show wpAny _ _ _ _ _ { s with heap := h'.push (seqObj "list" its.toArray 0) }
  refine wpAny_bind (wpAny_holding (wpAny_call_entry PyProof.Rows.slot_list_sort ⟨_, hoL, rfl⟩ PyProof.Rows.entry_list_sort
    (SrtO.list_sort_ord SrtO.swo_int hoL hz' (fun h2 => SrtO.ints_sortable hi h2) fun out g1 g2 => ⟨_, rfl, ?_⟩) (PyProof.Rows.args_list_sort _)))
  obtain ⟨k1, k2, k3⟩ := SrtO.ints_out hi g1 g2
  obtain ⟨e', he'⟩ := PyProof.Rows.sortedHeap_at (vs := its) (out := out.toArray) hoL
  have hlen : ((out.map SrtO.iv).map V.int).length ≤ sizeLine := by
    rw [List.length_map, k2.length_eq]
    rw [List.length_map] at hz
    exact hz
  refine wpAny_pure ⟨_, rfl, .ref h'.objs.size, upd H h'.objs.size (.lst ((out.map SrtO.iv).map V.int)), I1.laid (t' := s.toks) (fun b u e => ?_) (Nat.le_refl _)
    (show ObjOk X.prog X.w _ _ _ (.lst ((out.map SrtO.iv).map V.int)) from ⟨hlen, out, e', vals_of_ints k1, he'⟩), rfl, q _ _ k2 k3 (I1.hok.fresh (Nat.le_refl _))⟩
  have hb : b < h'.objs.size := Heap.lt_size e
  rw [PyProof.Rows.sortedHeap_old (Nat.ne_of_lt hb) (by rw [size_push']; exact Nat.lt_succ_of_lt hb)]
  exact Heap.get?_push_of_some _ e
theorem cr_sortedL (hc : X.calm = true) : CallR X (.builtin "sorted") (RCof X.K .sorted) := by
  refine CallR.pick fun pins s σ H xs Q I h => ?_
  obtain ⟨x, F, p, r, rfl, e, h1, ho, q⟩ := rOp_one h (len1 rfl fun a b c => by cases a <;> rfl)
  simp only [opSem] at ho
  unfold sortedP at ho
  split at ho
  · rename_i l hl
    cases hl
    obtain ⟨ns, hn, rfl⟩ := Option.map_eq_some_iff.mp ho
    rw [intsOf_eq hn] at h1
    obtain ⟨c, xs, rfl, hc2, rc⟩ := h1
    rw [rc.ints] at hc2
    refine ⟨_, cr_sortedI, c, ns, rfl, hc2.sql, fun ns' p h3 h4 h5 => ?_⟩
    have e2 : ns' = sortI ns := PySem.W.ksm_same (h3.trans (sortI_perm ns).symm) h4 (sortI_sorted ns)
    rw [e2]
    exact q _ _ (.lst h5 (Reps.of_ints _))
  · rename_i l hl
    cases hl
    obtain ⟨ns, hn, rfl⟩ := Option.map_eq_some_iff.mp ho
    rw [intsOf_eq hn] at h1
    obtain ⟨c, xs, rfl, hc2, rc⟩ := h1
    rw [rc.ints] at hc2
    refine ⟨_, cr_sortedIT, c, ns, rfl, Same.sqt e hc2, fun ns' p h3 h4 h5 => ?_⟩
    have e2 : ns' = sortI ns := PySem.W.ksm_same (h3.trans (sortI_perm ns).symm) h4 (sortI_sorted ns)
    rw [e2]
    exact q _ _ (.lst h5 (Reps.of_ints _))
  · rename_i ks vs hl
    cases hl
    split at ho
    · rename_i hlt
      obtain ⟨ns, hn, rfl⟩ := Option.map_eq_some_iff.mp ho
      have hk := intKeys_eq hn
      subst hk
      obtain ⟨c, xs, rfl, hc2, hlen, nd, rc⟩ := h1
      rw [List.length_map] at hlt
      refine ⟨_, call_sortedDI hc, c, _, ns, rfl, hc2, List.map_fst_zip (Nat.le_of_eq hlen), hlt, fun ns' p h3 h4 h5 => ?_⟩
      have e2 : ns' = sortI ns := PySem.W.ksm_same (h3.trans (sortI_perm ns).symm) h4 (sortI_sorted ns)
      rw [e2]
      exact q _ _ (.lst h5 (Reps.of_ints _))
    · cases ho
  · cases ho
theorem cr_allL (hc : X.calm = true) : CallR X (.builtin "all") (RCof X.K .allL) := by
  refine CallR.imp (cr_all hc) fun xs H Q h => ?_
  obtain ⟨x, F, p, r, rfl, e, h1, ho, q⟩ := rOp_one h (len1 rfl fun a b c => by cases a <;> rfl)
  simp only [opSem] at ho
  unfold allLP at ho
  split at ho
  · rename_i l hl
    cases hl
    obtain ⟨ns, hn, rfl⟩ := Option.map_eq_some_iff.mp ho
    rw [blsOf_eq hn] at h1
    obtain ⟨c, xs, rfl, hc2, rc⟩ := h1
    rw [rc.bls] at hc2
    exact ⟨c, ns, rfl, hc2.sql, q _ _ .bl⟩
  · cases ho
/-! ### subscripts -/
theorem atI_rep {K : PySem.W.Frag} {F : Hp} {l : List PV} {xs : List V} {i : Int} {p : PV} (h : Reps K F l xs) (e : atI l i = some p) : ∃ x, atI xs i = some x ∧ Rep K F p x := by
  unfold atI at e ⊢
  obtain ⟨j, h1, h2⟩ := Option.bind_eq_some_iff.mp e
  obtain ⟨x, h3, h4⟩ := h.get h2
  exact ⟨x, by rw [← h.length, h1]; exact h3, h4⟩
theorem IxR.pick {r' : R2} (h : ∀ (pins : List (Addr × Obj)) (s : Shared) (σ : L2.St) (H : Hp) (x y : V) (Q : VK), Inv X pins σ H s → r' x y H Q → ∃ r, IxR X r ∧ r x y H Q) : IxR X r' :=
  fun value slice pins s σ H x y v u Q I rx ry q => by
    obtain ⟨r, h1, h2⟩ := h pins s σ H x y Q I q
    exact h1 value slice pins s σ H x y v u Q I rx ry h2
end
end Br
set_option maxHeartbeats 1000000
/-! BrD4: subscripts, slices, dicts, isinstance, order. -/
namespace Br
open PySem PySem.Spec PyProof.Rows L2

/-! ### dicts -/
section
variable {K : PySem.W.Frag} {F : Hp}
theorem dgetK {H : Hp} {a : Addr} {kvs : List (Key × V)} {k : Key} (e : Rd H a (.dK kvs)) : DGet H a (kV k) (valV kvs k) := .inl ⟨kvs, k, e, rfl, rfl⟩
theorem find_some {κ : Type} [DecidableEq κ] {k : κ} {p : PV} : ∀ {ks : List κ} {l : List PV} {xs : List V}, Reps K F l xs → findK k ks l = some p → ∃ v, valV (ks.zip xs) k = some v ∧ Rep K F p v
  | [], _, _, _, h => by cases h
  | c :: ks, [], _, _, h => by cases h
  | c :: ks, q :: l, _, r, h => by
    obtain ⟨x, xs, rfl, h1, h2⟩ := r
    unfold findK at h
    rw [List.zip_cons_cons]
    by_cases e : k = c
    · rw [if_pos e] at h
      cases h
      exact ⟨x, valV_pos e.symm, h1⟩
    · rw [if_neg e] at h
      obtain ⟨v, h3, h4⟩ := find_some h2 h
      exact ⟨v, by rw [valV_neg (fun z => e z.symm)]; exact h3, h4⟩
theorem find_none {κ : Type} [DecidableEq κ] {k : κ} : ∀ {ks : List κ} {l : List PV} {xs : List V}, Reps K F l xs → ks.length = xs.length → findK k ks l = none → valV (ks.zip xs) k = none
  | [], _, _, _, _, h => rfl
  | c :: ks, [], _, r, hl, h => by
    rw [show _ = [] from r] at hl
    cases hl
  | c :: ks, q :: l, _, r, hl, h => by
    obtain ⟨x, xs, rfl, h1, h2⟩ := r
    unfold findK at h
    rw [List.zip_cons_cons]
    by_cases e : k = c
    · rw [if_pos e] at h
      cases h
    · rw [if_neg e] at h
      rw [valV_neg (fun z => e z.symm)]
      exact find_none h2 (by simpa using hl) h
theorem hasK_val {κ : Type} [DecidableEq κ] {k : κ} : ∀ {ks : List κ} {xs : List V}, ks.length = xs.length → (valV (ks.zip xs) k).isSome = hasK k ks
  | [], _, _ => rfl
  | c :: ks, [], h => by cases h
  | c :: ks, x :: xs, h => by
    rw [List.zip_cons_cons]
    unfold hasK
    rw [List.any_cons]
    by_cases e : c = k
    · rw [valV_pos e, decide_eq_true e]
      rfl
    · rw [valV_neg e, decide_eq_false e, Bool.false_or]
      exact hasK_val (by simpa using h)
theorem putKs_mem {κ : Type} [DecidableEq κ] {k : κ} : ∀ {ks : List κ}, ∀ c, c ∈ putKs k ks ↔ c = k ∨ c ∈ ks
  | [], c => by simp [putKs]
  | d :: ks, c => by
    unfold putKs
    by_cases e : k = d
    · rw [if_pos e]
      constructor
      · exact .inr
      · rintro (h | h)
        · rw [h, e]; simp
        · exact h
    · rw [if_neg e, List.mem_cons, putKs_mem c, List.mem_cons]
      constructor
      · rintro (h | h | h)
        · exact .inr (.inl h)
        · exact .inl h
        · exact .inr (.inr h)
      · rintro (h | h | h)
        · exact .inr (.inl h)
        · exact .inl h
        · exact .inr (.inr h)
theorem putKs_nd {κ : Type} [DecidableEq κ] {k : κ} : ∀ {ks : List κ}, ks.Nodup → (putKs k ks).Nodup
  | [], _ => by simp [putKs]
  | d :: ks, h => by
    unfold putKs
    have h' := List.nodup_cons.mp h
    by_cases e : k = d
    · rw [if_pos e]; exact h
    · rw [if_neg e]
      refine List.nodup_cons.mpr ⟨fun hm => ?_, putKs_nd h'.2⟩
      rcases (putKs_mem d).mp hm with q | q
      · exact e q.symm
      · exact h'.1 q
/-- the pairs behind d[k] = v -/
theorem put_zip {κ : Type} [DecidableEq κ] {k : κ} {v : V} {p : PV} (hp : Rep K F p v) : ∀ {ks : List κ} {l : List PV} {xs : List V}, Reps K F l xs → ks.length = xs.length → ks.Nodup →
    ∃ ys, putK (ks.zip xs) k v = (putKs k ks).zip ys ∧ (putKs k ks).length = ys.length ∧ Reps K F (putVs k p ks l) ys
  | [], l, xs, r, hl, _ => by
    have h0 : xs = [] := List.eq_nil_of_length_eq_zero (by simpa using hl.symm)
    subst h0
    have h1 : l = [] := List.eq_nil_of_length_eq_zero r.length
    subst h1
    exact ⟨[v], rfl, rfl, .cons hp .nil⟩
  | c :: ks, [], _, r, hl, _ => by
    rw [show _ = [] from r] at hl
    cases hl
  | c :: ks, q :: l, _, r, hl, nd => by
    obtain ⟨x, xs, rfl, h1, h2⟩ := r
    have nd' := List.nodup_cons.mp nd
    have hl' : ks.length = xs.length := by simpa using hl
    rw [List.zip_cons_cons]
    unfold putKs putVs
    by_cases e : k = c
    · subst e
      rw [if_pos rfl, if_pos rfl]
      refine ⟨v :: xs, ?_, by simpa using hl, .cons hp h2⟩
      rw [List.zip_cons_cons]
      unfold putK
      rw [if_pos (by simp)]
      rw [List.map_cons, if_pos rfl]
      congr 1
      refine (List.map_congr_left fun z hz => ?_).trans (List.map_id _)
      have hm : z.1 ∈ ks := (List.of_mem_zip hz).1
      rw [if_neg fun w => nd'.1 (by rw [← w]; exact hm)]
      rfl
    · rw [if_neg e, if_neg e]
      obtain ⟨ys, h3, h4, h5⟩ := put_zip hp h2 hl' nd'.2
      refine ⟨x :: ys, ?_, by simp [h4], .cons h1 h5⟩
      rw [List.zip_cons_cons, ← h3]
      unfold putK
      have e' : ¬ c = k := fun z => e z.symm
      simp only [List.any_cons, decide_eq_false e', Bool.false_or, List.map_cons, if_neg e']
      split <;> simp
end

section
variable {X : Cx}
/-- d[y] as a subscript by values -/
theorem ix_dict (hu : X.A.units + 1 < cLine) : IxR X (fun x y H Q => ∃ a v, x = .ref a ∧ DGet H a y (some v) ∧ Q v H) := by
  intro value slice pins s σ H x y v u Q I rx ry h hs
  obtain ⟨a, w, rfl, g, q⟩ := h
  cases rx
  have hT := dict_typeIs I g
  unfold subscriptTail
  refine wpAny_bind ?_
  rw [getitemInPython_of_ne hT.not_modules]
  refine wpAny_bind (wpAny_specialOf hT PySem.F.slot_dict_getitem.lookup ?_)
  have fin : wpAny (model X.prog X.w) X.A (subscripted slice false (.ref a) u) (fun r s₃ => wpAny (model X.prog X.w) X.A (letTemporaryGo value (.ref a) r >>= fun _ => pure r) (EP X pins σ Q) X.xe s₃) X.xe s := by
    rw [hs]
    exact wpAny_operating (d_getItem hu I g ry fun w' s' I' rw' => wpAny_bind (wpAny_letTemporaryGo (wpAny_pure ⟨w, H, I', rw', q⟩)))
  first
    | exact wpAny_pure (wpAny_bind fin)
    | exact wpAny_bind (wpAny_pure (wpAny_bind fin))
    | exact wpAny_bind fin
theorem ir_idx (hu : X.A.units + 1 < cLine) : IxR X (R2of X.K .idx) := by
  refine IxR.pick fun pins s σ H x y Q I h => ?_
  obtain ⟨F, ps, r, e, hb, ho, q⟩ := h
  obtain ⟨p, t, rfl, h1, h2⟩ := hb.two
  simp only [opSem] at ho
  unfold idxP at ho
  split at ho
  · rename_i a b hab
    cases hab
    obtain ⟨c, xs, rfl, hc, rc⟩ := h1
    obtain ⟨v, hv, rv⟩ := atI_rep rc ho
    exact ⟨_, ix_list, c, xs, b, v, rfl, h2, hc.sql, hv, q _ _ (.any rv)⟩
  · rename_i a b hab
    cases hab
    obtain ⟨c, xs, rfl, hc, rc⟩ := h1
    obtain ⟨v, hv, rv⟩ := atI_rep rc ho
    exact ⟨_, ix_tup, c, xs, b, v, rfl, h2, Same.sqt e hc, hv, q _ _ (.any rv)⟩
  · rename_i ks vs k hab
    cases hab
    obtain ⟨c, xs, rfl, hc, hl, nd, rc⟩ := h1
    obtain ⟨v, hv, rv⟩ := find_some rc ho
    rw [show y = V.int k from h2]
    exact ⟨_, ix_dict hu, c, v, rfl, .inl ⟨_, Sum.inl k, hc, rfl, hv.symm⟩, q _ _ (.any rv)⟩
  · rename_i ks vs k hab
    cases hab
    obtain ⟨c, xs, rfl, hc, hl, nd, rc⟩ := h1
    obtain ⟨v, hv, rv⟩ := find_some rc ho
    rw [show y = V.str k from h2]
    exact ⟨_, ix_dict hu, c, v, rfl, .inl ⟨_, Sum.inr k, hc, rfl, hv.symm⟩, q _ _ (.any rv)⟩
  · cases ho
theorem isD_shape {l : List PV} (h : (PV.lst l).isD 60 = true) : SeqAt.shaped (.list (PV.toDs l)) = true := by
  have := shaped_d h
  unfold PV.toD at this
  exact this
/-! ### slices -/
theorem cut_all {l : List PV} {a b : Option Int} (h : (cutP l a b).length = l.length) : HT.sIx l.length 0 a = 0 ∧ HT.sIx l.length l.length b = l.length := by
  unfold cutP at h
  rw [List.length_take, List.length_drop] at h
  have h1 := HT.sIx_le l.length 0 (Nat.zero_le _) a
  have h2 := HT.sIx_le l.length l.length (Nat.le_refl _) b
  omega
theorem Reps.cut {K : PySem.W.Frag} {F : Hp} {l : List PV} {xs : List V} (h : Reps K F l xs) (lo hi : Option Int) : Reps K F (cutP l lo hi) (cutV xs lo hi) := by
  unfold cutP cutV
  rw [h.length]
  exact (h.drop _).take _
theorem cutV_all {xs : List V} {lo hi : Option Int} (h : HT.sIx xs.length 0 lo = 0 ∧ HT.sIx xs.length xs.length hi = xs.length) : cutV xs lo hi = xs := by
  unfold cutV
  rw [h.1, h.2]
  simp
theorem SlR.pick {r' : V → Option Int → Option Int → Hp → VK → Prop} (h : ∀ (pins : List (Addr × Obj)) (s : Shared) (σ : L2.St) (H : Hp) (x : V) (lo hi : Option Int) (Q : VK), Inv X pins σ H s → r' x lo hi H Q → ∃ r, SlR X r ∧ r x lo hi H Q) : SlR X r' :=
  fun pins s σ H x v vl vu lo hi sl Q I rx hs pl pu q => by
    obtain ⟨r, h1, h2⟩ := h pins s σ H x lo hi Q I q
    exact h1 pins s σ H x v vl vu lo hi sl Q I rx hs pl pu h2
/-- the bounds of a slice as they are handed -/
def slA (o : Option Int) : List V := match o with
  | some i => [.int i]
  | none => []
theorem slcPart_ok {K : PySem.W.Frag} {F H : Hp} {b : Bool} {ps r : List PV} {vs : List V} {o : Option Int} (h : slcPart b ps = some (o, r)) (hb : RepRs K F H ps vs) : ∃ ws, vs = slA o ++ ws ∧ RepRs K F H r ws ∧ o.isSome = b := by
  unfold slcPart at h
  cases b with
  | true =>
    rw [if_pos rfl] at h
    split at h
    · rename_i i r' 
      cases h
      obtain ⟨v, w, rfl, h1, h2⟩ := hb
      rw [show v = V.int i from h1]
      exact ⟨w, rfl, h2, rfl⟩
    · cases h
  | false =>
    rw [if_neg Bool.false_ne_true] at h
    cases h
    exact ⟨vs, rfl, hb, rfl⟩
theorem sr_slc : SlR X (fun x lo hi H Q => rOp X.K (.slc lo.isSome hi.isSome) (x :: (slA lo ++ slA hi)) H Q) := by
  refine SlR.pick fun pins s σ H x lo hi Q I h => ?_
  obtain ⟨F, ps, r, e, hb, ho, q⟩ := h
  cases ps with
  | nil => cases hb
  | cons p ps =>
    obtain ⟨v, w, ev, h1, h2⟩ := hb
    cases ev
    simp only [opSem] at ho
    unfold slcP at ho
    dsimp only at ho
    split at ho
    · rename_i a as' ha
      obtain ⟨ws, e1, h3, e2⟩ := slcPart_ok ha h2
      split at ho
      · rename_i b hb2
        obtain ⟨ws2, e3, h4, e4⟩ := slcPart_ok hb2 h3
        have e5 : ws2 = [] := h4
        subst e5
        rw [e3, List.append_nil] at e1
        have ea : a = lo := by
          cases lo with
          | none => cases a with
            | none => rfl
            | some i => cases e2
          | some i => cases a with
            | none => cases e2
            | some j =>
              have : V.int i = V.int j := by
                have := congrArg List.head? e1
                simpa [slA] using this
              cases this
              rfl
        subst ea
        have eb : b = hi := by
          have e6 : slA hi = slA b := List.append_cancel_left e1
          cases hi with
          | none => cases b with
            | none => rfl
            | some i => cases e4
          | some i => cases b with
            | none => cases e4
            | some j => cases e6; rfl
        subst eb
        split at ho
        · rename_i l
          cases ho
          obtain ⟨c, xs, rfl, hc, rc⟩ := h1
          exact ⟨_, sl_list, c, xs, rfl, hc.sql, fun p hp => q _ _ (.lst hp (rc.cut _ _))⟩
        · rename_i l
          cases ho
          obtain ⟨c, xs, rfl, hc, rc⟩ := h1
          refine ⟨_, sl_tupA, c, xs, rfl, .inl (.inl (e _ _ hc)), fun hw => ?_, fun hw p hp => q _ _ (.tup hp (rc.cut _ _))⟩
          have := rc.cut a b
          rw [cutV_all hw] at this
          exact q _ _ (.tup0 hc this)
        · rename_i l
          split at ho
          · rename_i he
            cases ho
            obtain ⟨c, xs, o1, rfl, hc, hd, rc⟩ := h1
            have hw0 : HT.sIx xs.length 0 a = 0 ∧ HT.sIx xs.length xs.length b = xs.length := by have := cut_all he; rwa [rc.length] at this
            exact ⟨_, sl_tupA, c, xs, rfl, .inl (.inr ⟨o1, e _ _ hc⟩), fun hw => q _ _ (.xt0 hc hd rc), fun hw p hp => absurd hw0 hw⟩
          · rename_i hne
            cases ho
            obtain ⟨c, xs, o1, rfl, hc, hd, rc⟩ := h1
            refine ⟨_, sl_tupA, c, xs, rfl, .inl (.inr ⟨o1, e _ _ hc⟩), fun hw => ?_, fun hw p hp => q _ _ (.tup hp (rc.cut _ _))⟩
            have := rc.cut a b
            rw [cutV_all hw] at this
            exact absurd (by rw [this.length, rc.length]) hne
        · rename_i z
          split at ho
          · rename_i hz
            cases ho
            have h1 : x = .str z := h1
            exact ⟨_, sl_str, z, h1, lim_line hz, q _ _ .str⟩
          · cases ho
        · cases ho
      · cases ho
    · cases ho
end
end Br
set_option maxHeartbeats 1000000
/-! BrD5: sums of tuples, order, isinstance, get. -/
namespace Br
open PySem PySem.Spec PyProof.Rows L2

section
variable {prog : Program} {w : World} {A : Around} {E : Value → Shared → Prop} {s : Shared} {l : Addr} {its : List Value} {ns : List Int}
theorem sum_tup {Q : Value → Shared → Prop} (hh : A.handled = none) (hl : s.heap.IsTuple l its.toArray) (hi : IntsAre its ns)
    (h : ∀ h' tk t', (∀ b o, s.heap.get? b = some o → h'.get? b = some o) → Q (.int ns.sum t') { s with heap := h', toks := tk }) : wpAny (model prog w) A (call (.builtin "sum") [.ref l]) Q E s := by
  have hlt : l < s.heap.objs.size := by obtain ⟨_, e, _⟩ := hl; exact Heap.lt_size e
  have hl2 : (s.heap.push { cls := .type "tuple_iterator", data := .fields #[.ref l, .int 0 0] }).IsTuple l its.toArray := by
    obtain ⟨o, e, r⟩ := hl
    exact ⟨o, Heap.get?_push_of_some _ e, r⟩
  refine PySem.call_sum_walkG (wpAny_pyIter_tuple hl ?_)
  refine ⟨_, _, _, _, _, _, fun i => ns.getD i 0, rfl, Walks.tuple (A := A.in1) hh s.heap.objs.size l (Nat.ne_of_lt hlt) its.toArray, ⟨⟨_, Heap.get?_push_size _ rfl, rfl, rfl⟩, hl2⟩, fun b hb => ?_, fun i v hv => ?_, fun h' tk t' hk => ?_⟩
  · show b < (s.heap.push _).objs.size
    rw [Heap.size_push]
    rcases List.mem_cons.mp hb with rfl | hb
    · exact Nat.lt_succ_self _
    · rcases List.mem_cons.mp hb with rfl | hb
      · exact Nat.lt_succ_of_lt hlt
      · cases hb
  · exact PyProof.Rows.IntsAre.int_at hi _ _ (by simpa using hv)
  · have e0 : ∀ n, n ≤ ns.length → PySem.preSum (fun i => ns.getD i 0) n = (ns.take n).sum := by
      intro n
      induction n with
      | zero => intro _; rfl
      | succ n ih =>
        intro hn
        show PySem.preSum (fun i => ns.getD i 0) n + ns.getD n 0 = _
        rw [ih (by omega), PyProof.Rows.take_sum_succ ns n (by omega)]
    have e : PySem.preSum (fun i => ns.getD i 0) its.toArray.size = ns.sum := by
      rw [List.size_toArray, hi.length, e0 _ (Nat.le_refl _), List.take_length]
    show Q (.int (PySem.preSum (fun i => ns.getD i 0) its.toArray.size) t') _
    rw [e]
    refine h h' tk t' fun b o e => hk b o (fun hm => ?_) (Heap.get?_push_of_some _ e)
    rcases List.mem_cons.mp hm with e1 | hm
    · exact absurd (e1 ▸ Heap.lt_size e) (Nat.lt_irrefl _)
    · cases hm
end

/-! ### order of tuples -/
section
variable {X : Cx} {pins : List (Addr × Obj)} {σ : L2.St} {H : Hp} {s : Shared}
def ltB (a b : PV) : Bool := (ltP a b).getD false
theorem lexAt_shift {e r : Nat → Bool} {z : Bool} : ∀ (k i : Nat), Ob.lexAt e r z (i + 1) k = Ob.lexAt (fun j => e (j + 1)) (fun j => r (j + 1)) z i k
  | 0, _ => rfl
  | k + 1, i => by
    rw [Ob.lexAt_succ, Ob.lexAt_succ, lexAt_shift k (i + 1)]
/-- each unequal pair can be compared -/
def cmpOk : List PV → List PV → Prop
  | x :: xs, y :: ys => (eqP x y = true ∨ (ltP x y).isSome = true) ∧ cmpOk xs ys
  | _, _ => True
theorem ltPs_cons {x y : PV} {xs ys : List PV} {b : Bool} (h : ltPs (x :: xs) (y :: ys) = some b) : ∃ r, ltPs xs ys = some r ∧ (if eqP x y = true then some r else ltP x y) = some b := by
  unfold ltPs at h
  split at h
  · rename_i r hr
    exact ⟨r, hr, h⟩
  · cases h
theorem ltPs_cmp : ∀ {l m : List PV} {b : Bool}, ltPs l m = some b → cmpOk l m
  | [], _, _, _ => trivial
  | _ :: _, [], _, _ => trivial
  | x :: xs, y :: ys, b, h => by
    obtain ⟨r, h1, h2⟩ := ltPs_cons h
    refine ⟨?_, ltPs_cmp h1⟩
    by_cases e : eqP x y = true
    · exact .inl e
    · rw [if_neg e] at h2
      exact .inr (by rw [h2]; rfl)
theorem ltPs_lex : ∀ {l m : List PV} {b : Bool}, ltPs l m = some b → Ob.lexAt (fun j => eqP (l.getD j .non) (m.getD j .non)) (fun j => ltB (l.getD j .non) (m.getD j .non)) (decide (l.length < m.length)) 0 (min l.length m.length) = b
  | [], [], b, h => by cases h; rfl
  | [], _ :: _, b, h => by cases h; simp [Ob.lexAt_zero]
  | _ :: _, [], b, h => by cases h; simp [Ob.lexAt_zero]
  | x :: xs, y :: ys, b, h => by
    obtain ⟨r, h1, h2⟩ := ltPs_cons h
    rw [show min (x :: xs).length (y :: ys).length = min xs.length ys.length + 1 by simp only [List.length_cons]; omega, Ob.lexAt_succ]
    by_cases e : eqP x y = true
    · rw [if_pos e] at h2
      cases h2
      rw [if_pos (by simpa using e), lexAt_shift]
      have := ltPs_lex h1
      simpa using this
    · rw [if_neg e] at h2
      rw [if_neg (by simpa using e)]
      simp [ltB, h2]
mutual
theorem lt_run (I : Inv X pins σ H s) : ∀ (p q : PV) (n : Nat) (A : Around) (x y : V) (u v : Value) (b : Bool), A.units + n + 70 < cLine → p.isD n = true → q.isD n = true → ltP p q = some b → RepA X.K H p x → RepA X.K H q y → RelV x u → RelV y v → Ob.RcOp .Lt A s u v b
  | .int a, .int c, _, A, x, y, u, v, b, _, _, _, h, h1, h2, r1, r2 => by
    cases h
    rw [show x = V.int a from h1] at r1
    rw [show y = V.int c from h2] at r2
    obtain ⟨t, rfl⟩ := r1
    obtain ⟨t', rfl⟩ := r2
    exact Ob.RcOp.lt_int _ _ _ _
  | .tup l, .tup m, n, A, x, y, u, v, b, hu, d1, d2, h, h1, h2, r1, r2 => by
    have h : ltPs l m = some b := h
    obtain ⟨a, xs, rfl, ha, ra⟩ := h1
    obtain ⟨c, ys, rfl, hc, rc⟩ := h2
    cases r1
    cases r2
    obtain ⟨its, v1, t1, z1⟩ := I.tuple ha
    obtain ⟨its2, v2, t2, z2⟩ := I.tuple hc
    have e1 := v1.length
    have e2 := v2.length
    have e3 := ra.length
    have e4 := rc.length
    cases n with
    | zero => simp [PV.isD] at d1
    | succ n =>
      unfold PV.isD at d1 d2
      have R := Ob.RcOp.tuples_lt (A := A) (s := s) (e := fun j => eqP (l.getD j .non) (m.getD j .non)) (r := fun j => ltB (l.getD j .non) (m.getD j .non)) t1 t2 (by omega)
        (fun j h3 h4 => ?_) (fun j h3 h4 h5 => ?_)
      · rw [List.size_toArray, List.size_toArray, ← e1, ← e2, ← e3, ← e4, ltPs_lex h] at R
        exact R
      · simp at h3 h4
        have hj : j < l.length := by omega
        have hj2 : j < m.length := by omega
        obtain ⟨x1, g1, g2⟩ := ra.get (List.getElem?_eq_getElem hj)
        obtain ⟨y1, k1, k2⟩ := rc.get (List.getElem?_eq_getElem hj2)
        obtain ⟨u1, g3, g4⟩ := v1.get g1
        obtain ⟨w1, k3, k4⟩ := v2.get k1
        have f1 := List.all_eq_true.mp d1 _ (List.getElem_mem hj)
        have f2 := List.all_eq_true.mp d2 _ (List.getElem_mem hj2)
        obtain ⟨as, q1⟩ := Dp.reads I _ _ _ (Rep.dp0 n _ _ f1 g2) g4
        obtain ⟨bs, q2⟩ := Dp.reads I _ _ _ (Rep.dp0 n _ _ f2 k2) k4
        have f3 := depth_d n _ f1
        rw [show its.toArray[j] = u1 by
          have := List.getElem?_eq_some_iff.mp g3
          simpa using this.2, show its2.toArray[j] = w1 by
          have := List.getElem?_eq_some_iff.mp k3
          simpa using this.2]
        rw [show l.getD j .non = l[j] by simp [List.getD, hj], show m.getD j .non = m[j] by simp [List.getD, hj2]]
        exact SeqAt.eqAt_reads _ _ _ _ _ _ _ _ q1 q2 (canLay_d n _ f1) (canLay_d n _ f2) (by show A.units + 1 + _ < _; omega)
      · simp at h3 h4
        exact lt_runs I l m n A.in1 xs ys its its2 (by show A.units + 1 + n + 70 < _; omega) d1 d2 (ltPs_cmp h) ra rc v1 v2 j (by omega) (by omega) h5
  | .non, _, _, _, _, _, _, _, _, _, _, _, h, _, _, _, _ => by cases h
  | .bl _, _, _, _, _, _, _, _, _, _, _, _, h, _, _, _, _ => by cases h
  | .str _, _, _, _, _, _, _, _, _, _, _, _, h, _, _, _, _ => by cases h
  | .ty _, _, _, _, _, _, _, _, _, _, _, _, h, _, _, _, _ => by cases h
  | .exc _, _, _, _, _, _, _, _, _, _, _, _, h, _, _, _, _ => by cases h
  | .lst _, _, _, _, _, _, _, _, _, _, _, _, h, _, _, _, _ => by cases h
  | .xt _, _, _, _, _, _, _, _, _, _, _, _, h, _, _, _, _ => by cases h
  | .dK _ _, _, _, _, _, _, _, _, _, _, _, _, h, _, _, _, _ => by cases h
  | .dT _ _, _, _, _, _, _, _, _, _, _, _, _, h, _, _, _, _ => by cases h
  | .dX _ _, _, _, _, _, _, _, _, _, _, _, _, h, _, _, _, _ => by cases h
  | .obj _ _ _, _, _, _, _, _, _, _, _, _, _, _, h, _, _, _, _ => by cases h
  | .gt _, _, _, _, _, _, _, _, _, _, _, _, h, _, _, _, _ => by cases h
  | .int _, .non, _, _, _, _, _, _, _, _, _, _, h, _, _, _, _ => by cases h
  | .int _, .bl _, _, _, _, _, _, _, _, _, _, _, h, _, _, _, _ => by cases h
  | .int _, .str _, _, _, _, _, _, _, _, _, _, _, h, _, _, _, _ => by cases h
  | .int _, .ty _, _, _, _, _, _, _, _, _, _, _, h, _, _, _, _ => by cases h
  | .int _, .exc _, _, _, _, _, _, _, _, _, _, _, h, _, _, _, _ => by cases h
  | .int _, .lst _, _, _, _, _, _, _, _, _, _, _, h, _, _, _, _ => by cases h
  | .int _, .xt _, _, _, _, _, _, _, _, _, _, _, h, _, _, _, _ => by cases h
  | .int _, .tup _, _, _, _, _, _, _, _, _, _, _, h, _, _, _, _ => by cases h
  | .int _, .dK _ _, _, _, _, _, _, _, _, _, _, _, h, _, _, _, _ => by cases h
  | .int _, .dT _ _, _, _, _, _, _, _, _, _, _, _, h, _, _, _, _ => by cases h
  | .int _, .dX _ _, _, _, _, _, _, _, _, _, _, _, h, _, _, _, _ => by cases h
  | .int _, .obj _ _ _, _, _, _, _, _, _, _, _, _, _, h, _, _, _, _ => by cases h
  | .int _, .gt _, _, _, _, _, _, _, _, _, _, _, h, _, _, _, _ => by cases h
  | .tup _, .non, _, _, _, _, _, _, _, _, _, _, h, _, _, _, _ => by cases h
  | .tup _, .bl _, _, _, _, _, _, _, _, _, _, _, h, _, _, _, _ => by cases h
  | .tup _, .str _, _, _, _, _, _, _, _, _, _, _, h, _, _, _, _ => by cases h
  | .tup _, .ty _, _, _, _, _, _, _, _, _, _, _, h, _, _, _, _ => by cases h
  | .tup _, .exc _, _, _, _, _, _, _, _, _, _, _, h, _, _, _, _ => by cases h
  | .tup _, .lst _, _, _, _, _, _, _, _, _, _, _, h, _, _, _, _ => by cases h
  | .tup _, .xt _, _, _, _, _, _, _, _, _, _, _, h, _, _, _, _ => by cases h
  | .tup _, .int _, _, _, _, _, _, _, _, _, _, _, h, _, _, _, _ => by cases h
  | .tup _, .dK _ _, _, _, _, _, _, _, _, _, _, _, h, _, _, _, _ => by cases h
  | .tup _, .dT _ _, _, _, _, _, _, _, _, _, _, _, h, _, _, _, _ => by cases h
  | .tup _, .dX _ _, _, _, _, _, _, _, _, _, _, _, h, _, _, _, _ => by cases h
  | .tup _, .obj _ _ _, _, _, _, _, _, _, _, _, _, _, h, _, _, _, _ => by cases h
  | .tup _, .gt _, _, _, _, _, _, _, _, _, _, _, h, _, _, _, _ => by cases h
theorem lt_runs (I : Inv X pins σ H s) : ∀ (l m : List PV) (n : Nat) (A : Around) (xs ys : List V) (us vs : List Value), A.units + n + 70 < cLine → l.all (PV.isD n) = true → m.all (PV.isD n) = true → cmpOk l m → Reps X.K H l xs → Reps X.K H m ys → Vals xs us → Vals ys vs →
    ∀ j, (h1 : j < us.length) → (h2 : j < vs.length) → eqP (l.getD j .non) (m.getD j .non) = false → Ob.RcOp .Lt A s us[j] vs[j] (ltB (l.getD j .non) (m.getD j .non))
  | [], _, _, _, xs, _, us, _, _, _, _, _, r, _, v1, _, j, h1, _, _ => by
    rw [show xs = [] from r] at v1
    cases v1
    exact absurd h1 (Nat.not_lt_zero j)
  | _ :: _, [], _, _, _, ys, _, vs, _, _, _, _, _, r, _, v2, j, _, h2, _ => by
    rw [show ys = [] from r] at v2
    cases v2
    exact absurd h2 (Nat.not_lt_zero j)
  | p :: l, q :: m, n, A, xs, ys, us, vs, hu, d1, d2, ok, r1, r2, v1, v2, j, h1, h2, ne => by
    obtain ⟨x, xs, rfl, a1, a2⟩ := r1
    obtain ⟨y, ys, rfl, b1, b2⟩ := r2
    rw [List.all_cons, Bool.and_eq_true] at d1 d2
    cases v1 with
    | cons c1 c2 =>
      cases v2 with
      | cons k1 k2 =>
        unfold cmpOk at ok
        cases j with
        | zero =>
          have ne' : eqP p q = false := by simpa using ne
          have ok1 := ok.1
          rw [ne'] at ok1
          obtain ⟨b, hb⟩ := Option.isSome_iff_exists.mp (ok1.resolve_left Bool.false_ne_true)
          have := lt_run I p q n A x y _ _ b hu d1.1 d2.1 hb a1.toA b1.toA c1 k1
          simpa [ltB, hb] using this
        | succ j =>
          have := lt_runs I l m n A xs ys _ _ hu d1.2 d2.2 ok.2 a2 b2 c2 k2 j (by simpa using h1) (by simpa using h2) (by simpa using ne)
          simpa using this
end
end
section
variable {X : Cx}
theorem or_lt (hu : X.A.units + 131 < cLine) : OpR X (compareOp .Lt) (R2of X.K .lt) := by
  intro pins s σ H x y v u Q I rx ry h
  obtain ⟨F, ps, r, e, hb, ho, q⟩ := h
  obtain ⟨p, t, rfl, h1, h2⟩ := hb.two
  simp only [opSem] at ho
  unfold ltOP at ho
  split at ho
  · rename_i a b hab
    cases hab
    cases ho
    exact op_lt pins s σ H x y v u Q I rx ry ⟨a, b, h1, h2, q _ _ .bl⟩
  · rename_i a b hab
    cases hab
    split at ho
    · rename_i hd
      obtain ⟨c, hc, rfl⟩ := Option.map_eq_some_iff.mp ho
      have R := lt_run I (.tup a) (.tup b) 60 X.A x y v u c (by omega) hd.1 hd.2 hc (h1.rep e) (h2.rep e) rx ry
      have z : wpAny (model X.prog X.w) X.A (compareOp .Lt v u) (EP X pins σ Q) X.xe s := R X.prog X.w X.xe (EP X pins σ Q) ⟨.bl _, H, I, rfl, q _ _ .bl⟩
      exact z
    · cases ho
  · cases ho
theorem lexAt_leI : ∀ ns ms : List Int, Ob.lexAt (fun j => decide (ns.getD j 0 = ms.getD j 0)) (fun j => decide (ns.getD j 0 ≤ ms.getD j 0)) (decide (ns.length ≤ ms.length)) 0 (min ns.length ms.length) = leI ns ms
  | [], ms => by simp [Ob.lexAt_zero, leI]
  | x :: xs, [] => by simp [Ob.lexAt_zero, leI]
  | x :: xs, y :: ys => by
    have e : min (x :: xs).length (y :: ys).length = min xs.length ys.length + 1 := by simp [Nat.succ_min_succ]
    rw [e, Ob.lexAt_succ, lexAt_shift]
    have ih := lexAt_leI xs ys
    have e2 : decide ((x :: xs).length ≤ (y :: ys).length) = decide (xs.length ≤ ys.length) := by simp
    rw [e2]
    simp only [List.getD_cons_succ, List.getD_cons_zero]
    rw [ih]
    have e3 : leI (x :: xs) (y :: ys) = if x = y then leI xs ys else decide (x ≤ y) := rfl
    rw [e3]
    by_cases h : x = y <;> simp [h]
theorem or_le (hu : X.A.units + 131 < cLine) : OpR X (compareOp .LtE) (R2of X.K .le) := by
  refine OpR.pick fun pins s σ H x y Q I h => ?_
  obtain ⟨F, ps, r, e, hb, ho, q⟩ := h
  obtain ⟨p, t, rfl, h1, h2⟩ := hb.two
  simp only [opSem] at ho
  unfold leOP at ho
  split at ho
  · rename_i a b hab
    cases hab
    cases ho
    exact ⟨_, op_le, _, _, h1, h2, q _ _ .bl⟩
  · rename_i a b hab
    cases hab
    obtain ⟨ns, hn, ho⟩ := Option.bind_eq_some_iff.mp (show (intsOf a).bind _ = some r from ho)
    obtain ⟨ms, hm, rfl⟩ := Option.map_eq_some_iff.mp ho
    rw [intsOf_eq hn] at h1
    rw [intsOf_eq hm] at h2
    obtain ⟨c, xs, rfl, hc, rc⟩ := h1
    obtain ⟨d, ys, rfl, hd, rd⟩ := h2
    rw [rc.ints] at hc
    rw [rd.ints] at hd
    refine ⟨_, op_leT (by omega), c, d, ns, ms, rfl, rfl, Same.sqt e hc, Same.sqt e hd, ?_⟩
    rw [lexAt_leI]
    exact q _ _ .bl
  · cases ho
theorem lexAt_geI : ∀ ns ms : List Int, Ob.lexAt (fun j => decide (ns.getD j 0 = ms.getD j 0)) (fun j => decide (ms.getD j 0 ≤ ns.getD j 0)) (decide (ms.length ≤ ns.length)) 0 (min ns.length ms.length) = leI ms ns
  | [], [] => by simp [Ob.lexAt_zero, leI]
  | [], y :: ys => by simp [Ob.lexAt_zero, leI]
  | x :: xs, [] => by simp [Ob.lexAt_zero, leI]
  | x :: xs, y :: ys => by
    have e : min (x :: xs).length (y :: ys).length = min xs.length ys.length + 1 := by simp [Nat.succ_min_succ]
    rw [e, Ob.lexAt_succ, lexAt_shift]
    have ih := lexAt_geI xs ys
    have e2 : decide ((y :: ys).length ≤ (x :: xs).length) = decide (ys.length ≤ xs.length) := by simp
    rw [e2]
    simp only [List.getD_cons_succ, List.getD_cons_zero]
    rw [ih]
    have e3 : leI (y :: ys) (x :: xs) = if y = x then leI ys xs else decide (y ≤ x) := rfl
    rw [e3]
    by_cases h : x = y
    · simp [h]
    · have h' : ¬ y = x := fun z => h z.symm
      simp [h, h']
theorem op_geT (hu : X.A.units < cLine) : OpR X (compareOp .GtE) (fun x y H Q => ∃ (a b : Addr) (ns ms : List Int), x = .ref a ∧ y = .ref b ∧ SqT X.K H a (ns.map V.int) ∧ SqT X.K H b (ms.map V.int) ∧ Q (.bl (leI ms ns)) H) := by
  intro pins s σ H x y v u Q I rx ry h
  obtain ⟨a, b, ns, ms, rfl, rfl, ha, hb, q⟩ := h
  cases rx
  cases ry
  obtain ⟨its, r1, p1, _⟩ := I.tuple ha
  obtain ⟨its2, r2, p2, _⟩ := I.tuple hb
  have i1 : IntsAre its ns := Vals.ints r1
  have i2 : IntsAre its2 ms := Vals.ints r2
  have e1 : its.toArray.size = ns.length := by rw [List.size_toArray]; exact i1.length
  have e2 : its2.toArray.size = ms.length := by rw [List.size_toArray]; exact i2.length
  have g1 : ∀ j (_ : j < its.toArray.size), ∃ t, its.toArray[j] = .int (ns.getD j 0) t := fun j h1 => PyProof.Rows.IntsAre.int_at i1 _ _ (by simp at h1; simp [h1])
  have g2 : ∀ j (_ : j < its2.toArray.size), ∃ t, its2.toArray[j] = .int (ms.getD j 0) t := fun j h1 => PyProof.Rows.IntsAre.int_at i2 _ _ (by simp at h1; simp [h1])
  have R := Ob.RcOp.tuples_ge (A := X.A) (s := s) (e := fun j => decide (ns.getD j 0 = ms.getD j 0)) (r := fun j => decide (ms.getD j 0 ≤ ns.getD j 0)) p1 p2 hu (fun j h1 h2 => by
    obtain ⟨t, et⟩ := g1 j h1
    obtain ⟨t', et'⟩ := g2 j h2
    rw [et, et', show decide (ns.getD j 0 = ms.getD j 0) = (ns.getD j 0 == ms.getD j 0) from Bool.eq_iff_iff.mpr (by simp)]
    exact SeqAt.EqAt.int_int _ _ _ _) (fun j h1 h2 _ => by
    obtain ⟨t, et⟩ := g1 j h1
    obtain ⟨t', et'⟩ := g2 j h2
    rw [et, et']
    exact Ob.RcOp.ge_int _ _ _ _)
  rw [e1, e2, show decide (ns.length ≥ ms.length) = decide (ms.length ≤ ns.length) from rfl, lexAt_geI] at R
  have z : wpAny (model X.prog X.w) X.A (compareOp .GtE (.ref a) (.ref b)) (EP X pins σ Q) X.xe s := R X.prog X.w X.xe (EP X pins σ Q) ⟨.bl _, H, I, rfl, q⟩
  exact z
theorem or_ge (hu : X.A.units + 131 < cLine) : OpR X (compareOp .GtE) (R2of X.K .ge) := by
  refine OpR.pick fun pins s σ H x y Q I h => ?_
  obtain ⟨F, ps, r, e, hb, ho, q⟩ := h
  obtain ⟨p, t, rfl, h1, h2⟩ := hb.two
  simp only [opSem] at ho
  unfold geOP at ho
  split at ho
  · rename_i a b hab
    cases hab
    cases ho
    exact ⟨_, op_ge, _, _, h1, h2, q _ _ .bl⟩
  · rename_i a b hab
    cases hab
    obtain ⟨ns, hn, ho⟩ := Option.bind_eq_some_iff.mp (show (intsOf a).bind _ = some r from ho)
    obtain ⟨ms, hm, rfl⟩ := Option.map_eq_some_iff.mp ho
    rw [intsOf_eq hn] at h1
    rw [intsOf_eq hm] at h2
    obtain ⟨c, xs, rfl, hc, rc⟩ := h1
    obtain ⟨d, ys, rfl, hd, rd⟩ := h2
    rw [rc.ints] at hc
    rw [rd.ints] at hd
    exact ⟨_, op_geT (by omega), c, d, ns, ms, rfl, rfl, Same.sqt e hc, Same.sqt e hd, q _ _ .bl⟩
  · cases ho
theorem cr_sumT (hc : X.calm = true) : CallR X (.builtin "sum") (fun vs H Q => ∃ (a : Addr) (ns : List Int), vs = [V.ref a] ∧ SqT X.K H a (ns.map V.int) ∧ Q (.int ns.sum) H) := by
  intro pins s σ H vs us Q I r h
  obtain ⟨a, ns, rfl, hs, q⟩ := h
  obtain ⟨its, rv, hl, _⟩ := I.tuple hs
  rw [Vals.ref1 r]
  exact sum_tup (I.ok.hd hc) hl rv.ints fun h' tk t' hk => ⟨.int _, H, I.kept hk, ⟨_, rfl⟩, q⟩
theorem cr_sumA (hc : X.calm = true) : CallR X (.builtin "sum") (RCof X.K .sum) := by
  refine CallR.pick fun pins s σ H xs Q I h => ?_
  obtain ⟨x, F, p, r, rfl, e, h1, ho, q⟩ := rOp_one h (len1 rfl fun a b c => by cases a <;> rfl)
  simp only [opSem] at ho
  unfold sumP at ho
  split at ho
  · rename_i l hl
    cases hl
    obtain ⟨ns, hn, rfl⟩ := Option.map_eq_some_iff.mp ho
    rw [intsOf_eq hn] at h1
    obtain ⟨c, xs, rfl, hc2, rc⟩ := h1
    rw [rc.ints] at hc2
    exact ⟨_, cr_sum hc, c, ns, rfl, hc2.sql, q _ _ .int⟩
  · rename_i l hl
    cases hl
    obtain ⟨ns, hn, rfl⟩ := Option.map_eq_some_iff.mp ho
    rw [intsOf_eq hn] at h1
    obtain ⟨c, xs, rfl, hc2, rc⟩ := h1
    rw [rc.ints] at hc2
    exact ⟨_, cr_sumT hc, c, ns, rfl, Same.sqt e hc2, q _ _ .int⟩
  · cases ho
/-! ### isinstance -/
theorem tyx_of {K : PySem.W.Frag} {F H : Hp} {p : PV} {x : V} {t : String} (e : Same F H) (h : RepB K F H p x) (ht : tyName p = some t) : TyX K H x (.type t) := by
  cases p with
  | non => cases ht; rw [show x = V.non from h]; exact .base .non
  | bl b => cases ht; rw [show x = V.bl b from h]; exact .base (.bl b)
  | int i => cases ht; rw [show x = V.int i from h]; exact .base (.int i)
  | str y => cases ht; rw [show x = V.str y from h]; exact .base (.str y)
  | lst l =>
    cases ht
    obtain ⟨a, xs, rfl, (h1 | ⟨o, h1⟩) | ⟨its, n, h1, _, _⟩, _⟩ := h
    · exact .base (.lst h1)
    · exact .base (.frz h1)
    · exact .kList h1 rfl
  | tup l =>
    cases ht
    obtain ⟨a, xs, rfl, h1, _⟩ := h
    rcases h1 with (h1 | ⟨o, h1⟩) | ⟨o, its, n, h1, h2, _⟩
    · exact .base (.tup (e _ _ h1))
    · exact .fTuple (e _ _ h1)
    · exact .kTuple h1 h2
  | xt l => cases ht; obtain ⟨a, xs, o, rfl, h1, _⟩ := h; exact .fTuple (e _ _ h1)
  | dK ks l => cases ht; obtain ⟨a, xs, rfl, h1 | ⟨o, h1⟩, _⟩ := h <;> first | exact .base (.dK h1) | exact .fDict h1
  | dT ks l => cases ht
  | dX ks l => cases ht
  | obj c ns l => cases ht
  | gt l =>
    cases ht
    obtain ⟨a, xs, rfl, h1, _⟩ := h
    rcases h1 with (h1 | ⟨o, h1⟩) | ⟨o, its, n, h1, h2, _⟩
    · exact .base (.tup (e _ _ h1))
    · exact .fTuple (e _ _ h1)
    · exact .kTuple h1 h2
  | ty n => cases ht
  | exc c => cases ht
theorem isTys_ty {ts : List String} {p : PV} {b : Bool} (h : isTys ts p = some b) (hn : ts ≠ []) : ∃ t, tyName p = some t := by
  cases ts with
  | nil => exact absurd rfl hn
  | cons c ts =>
    unfold isTys at h
    cases e : tyName p with
    | some t => exact ⟨t, rfl⟩
    | none => rw [show isTyP c p = none by unfold isTyP; rw [e]] at h; cases h
theorem cr_isTy1 {c : String} : CallR X (.builtin "isinstance") (fun xs H Q => ∃ x, xs = [x, .ty c] ∧ rOp X.K (.isTy [c]) [x] H Q) := by
  refine CallR.imp call_isi fun xs H Q h => ?_
  obtain ⟨x, rfl, h⟩ := h
  obtain ⟨F, ps, r, e, hb, ho, q⟩ := h
  obtain ⟨p, rfl, h1⟩ := hb.one
  simp only [opSem, isTyOP] at ho
  obtain ⟨b, hb, rfl⟩ := Option.map_eq_some_iff.mp ho
  obtain ⟨t, ht⟩ := isTys_ty hb (by simp)
  refine ⟨x, .ty c, _, _, b, rfl, .ty c, tyx_of e h1 ht, ?_, q _ _ .bl⟩
  unfold isTys at hb
  have e2 : isTyP c p = kitB t c := by unfold isTyP; rw [ht]
  rw [e2] at hb
  split at hb
  · rename_i h2; cases hb; exact kit_ty h2
  · rename_i h2; cases hb; exact kit_ty h2
  · cases hb
/-- d.get(k, x) -/
theorem dget_ok {K : PySem.W.Frag} {H : Hp} {x y z : V} {Q : VK} (h : rOp K .dget [x, y, z] H Q) : ∃ a o, x = .ref a ∧ DGet H a y o ∧ Q (o.getD z) H := by
  obtain ⟨F, ps, r, e, hb, ho, q⟩ := h
  obtain ⟨p, t, d, rfl, h1, h2, h3⟩ := hb.three
  simp only [opSem] at ho
  unfold dgetP at ho
  split at ho
  · rename_i ks vs k d' hab
    cases hab
    cases ho
    obtain ⟨c, xs, rfl, hc, hl, nd, rc⟩ := h1
    rw [show y = V.int k from h2]
    refine ⟨c, _, rfl, dgetK (k := Sum.inl k) hc, ?_⟩
    cases hf : findK (Sum.inl k) ks vs with
    | some p =>
      obtain ⟨v, hv, rv⟩ := find_some rc hf
      rw [hv]
      rw [hf] at q
      exact q _ _ (.any rv)
    | none =>
      rw [find_none rc hl hf]
      rw [hf] at q
      rw [show z = V.int d' from h3]
      exact q _ _ .int
  · rename_i ks vs k d' hab
    cases hab
    cases ho
    obtain ⟨c, xs, rfl, hc, hl, nd, rc⟩ := h1
    rw [show y = V.str k from h2]
    refine ⟨c, _, rfl, dgetK (k := Sum.inr k) hc, ?_⟩
    cases hf : findK (Sum.inr k) ks vs with
    | some p =>
      obtain ⟨v, hv, rv⟩ := find_some rc hf
      rw [hv]
      rw [hf] at q
      exact q _ _ (.any rv)
    | none =>
      rw [find_none rc hl hf]
      rw [hf] at q
      rw [show z = V.int d' from h3]
      exact q _ _ .int
  · cases ho
end
end Br
set_option maxHeartbeats 2000000
/-! BrDx: dicts whose keys are tuples that are tracked or known, nested too. -/
namespace Br
open PySem PySem.Spec PyProof.Rows L2
mutual
/-- the value at hand is the key k -/
def NAt (H : Hp) : NestedKey → V → Prop
  | .num i, v => v = .int i
  | .tup ks, v => ∃ (a : Addr) (xs : List V), v = .ref a ∧ Rd H a (.tup xs) ∧ NAts H ks xs
  | _, _ => False
def NAts (H : Hp) : List NestedKey → List V → Prop
  | [], xs => xs = []
  | k :: ks, xs => ∃ x r, xs = x :: r ∧ NAt H k x ∧ NAts H ks r
end
section
variable {P : Program} {w : World} {H F : Hp} {h : Heap} {K : PySem.W.Frag}
mutual
theorem NAt.is (ok : HOk P w H h) : ∀ {k : NestedKey} {v : V} {u : Value}, NAt H k v → RelV v u → NestedIs h k u
  | .num i, v, u, n, r => by
    have n : v = .int i := by rw [NAt] at n; exact n
    subst n
    obtain ⟨t, rfl⟩ := r
    exact .int i t
  | .tup ks, v, u, n, r => by
    rw [NAt] at n
    obtain ⟨a, xs, rfl, hd, hs⟩ := n
    cases (show u = Value.ref a from r)
    obtain ⟨_, its, rv, o, h1, h2, n, h3⟩ := (show ObjOk P w H h a (.tup xs) from rd_of ok hd)
    exact .tup h1 h2 h3 (by simpa using NAts.is ok hs rv)
  | .none, v, u, n, r => by rw [NAt] at n; exact n.elim; all_goals (intros; contradiction)
  | .text x, v, u, n, r => by rw [NAt] at n; exact n.elim; all_goals (intros; contradiction)
theorem NAts.is (ok : HOk P w H h) : ∀ {ks : List NestedKey} {vs : List V} {us : List Value}, NAts H ks vs → Vals vs us → NestedAll h ks us
  | [], vs, us, n, r => by
    have n : vs = [] := by rw [NAts] at n; exact n
    subst n
    cases r
    exact .nil
  | k :: ks, vs, us, n, r => by
    rw [NAts] at n
    obtain ⟨x, ys, rfl, h1, h2⟩ := n
    cases r with
    | cons a b => exact .cons (NAt.is ok h1 a) (NAts.is ok h2 b)
end
mutual
theorem Rep.nat (e : Same F H) : ∀ {p : PV} {v : V} {k : NestedKey}, Rep K F p v → PV.nk p = some k → NAt H k v
  | .int i, v, k, r, hk => by
    rw [PV.nk] at hk
    cases hk
    rw [NAt]
    exact r
  | .tup l, v, k, r, hk => by
    rw [PV.nk] at hk
    obtain ⟨ks, h1, rfl⟩ := Option.map_eq_some_iff.mp hk
    obtain ⟨a, xs, rfl, ha, rr⟩ := r
    rw [NAt]
    exact ⟨a, xs, rfl, .inl (e _ _ ha), Reps.nat e rr h1⟩
  | .xt l, v, k, r, hk => by
    rw [PV.nk] at hk
    obtain ⟨ks, h1, rfl⟩ := Option.map_eq_some_iff.mp hk
    obtain ⟨a, xs, o, rfl, ha, _, rr⟩ := r
    rw [NAt]
    exact ⟨a, xs, rfl, .inr ⟨o, e _ _ ha⟩, Reps.nat e rr h1⟩
  | .non, _, _, _, hk => by simp [PV.nk] at hk
  | .bl _, _, _, _, hk => by simp [PV.nk] at hk
  | .str _, _, _, _, hk => by simp [PV.nk] at hk
  | .ty _, _, _, _, hk => by simp [PV.nk] at hk
  | .exc _, _, _, _, hk => by simp [PV.nk] at hk
  | .lst _, _, _, _, hk => by simp [PV.nk] at hk
  | .dK _ _, _, _, _, hk => by simp [PV.nk] at hk
  | .dT _ _, _, _, _, hk => by simp [PV.nk] at hk
  | .dX _ _, _, _, _, hk => by simp [PV.nk] at hk
  | .obj _ _ _, _, _, _, hk => by simp [PV.nk] at hk
  | .gt _, _, _, _, hk => by simp [PV.nk] at hk
theorem Reps.nat (e : Same F H) : ∀ {l : List PV} {vs : List V} {ks : List NestedKey}, Reps K F l vs → PV.nks l = some ks → NAts H ks vs
  | [], vs, ks, r, hk => by
    rw [PV.nks] at hk
    cases hk
    rw [NAts]
    exact r
  | p :: l, vs, ks, r, hk => by
    obtain ⟨x, ys, rfl, h1, h2⟩ := r
    rw [PV.nks] at hk
    split at hk
    · rename_i k r hk1 hk2
      cases hk
      rw [NAts]
      exact ⟨x, ys, rfl, Rep.nat e h1 hk1, Reps.nat e h2 hk2⟩
    · cases hk
end
mutual
theorem nk_ik : ∀ {p : PV} {k : NestedKey}, PV.nk p = some k → ikN k = true
  | .int i, k, hk => by
    rw [PV.nk] at hk
    cases hk
    rw [ikN]
  | .tup l, k, hk => by
    rw [PV.nk] at hk
    obtain ⟨ks, h1, rfl⟩ := Option.map_eq_some_iff.mp hk
    rw [ikN]
    exact nks_ik h1
  | .xt l, k, hk => by
    rw [PV.nk] at hk
    obtain ⟨ks, h1, rfl⟩ := Option.map_eq_some_iff.mp hk
    rw [ikN]
    exact nks_ik h1
  | .non, _, hk => by simp [PV.nk] at hk
  | .bl _, _, hk => by simp [PV.nk] at hk
  | .str _, _, hk => by simp [PV.nk] at hk
  | .ty _, _, hk => by simp [PV.nk] at hk
  | .exc _, _, hk => by simp [PV.nk] at hk
  | .lst _, _, hk => by simp [PV.nk] at hk
  | .dK _ _, _, hk => by simp [PV.nk] at hk
  | .dT _ _, _, hk => by simp [PV.nk] at hk
  | .dX _ _, _, hk => by simp [PV.nk] at hk
  | .obj _ _ _, _, hk => by simp [PV.nk] at hk
  | .gt _, _, hk => by simp [PV.nk] at hk
theorem nks_ik : ∀ {l : List PV} {ks : List NestedKey}, PV.nks l = some ks → ikNs ks = true
  | [], ks, hk => by
    rw [PV.nks] at hk
    cases hk
    rw [ikNs]
  | p :: l, ks, hk => by
    rw [PV.nks] at hk
    split at hk
    · rename_i k r hk1 hk2
      cases hk
      rw [ikNs, nk_ik hk1, nks_ik hk2]
      rfl
    · cases hk
end
mutual
theorem hash_ik (w1 w2 : World) : ∀ {k : NestedKey}, ikN k = true → k.hash w1 = k.hash w2
  | .num i, _ => by rw [NestedKey.hash, NestedKey.hash]
  | .tup ks, hk => by
    rw [ikN] at hk
    rw [NestedKey.hash, NestedKey.hash, hashes_ik w1 w2 hk]
  | .none, hk => by simp [ikN] at hk
  | .text _, hk => by simp [ikN] at hk
theorem hashes_ik (w1 w2 : World) : ∀ {ks : List NestedKey}, ikNs ks = true → NestedKey.hashes w1 ks = NestedKey.hashes w2 ks
  | [], _ => by rw [NestedKey.hashes, NestedKey.hashes]
  | k :: ks, hk => by
    rw [ikNs, Bool.and_eq_true] at hk
    rw [NestedKey.hashes, NestedKey.hashes, hash_ik w1 w2 hk.1, hashes_ik w1 w2 hk.2]
end
theorem kok_nk {p : PV} (h : p.kok = true) : PV.nk p = some p.kq ∧ (∃ ks, p.kq = .tup ks) ∧ p.kq.depth ≤ 8 := by
  unfold PV.kok at h
  split at h
  · rename_i l
    rw [Bool.and_eq_true] at h
    obtain ⟨ks, hk⟩ := Option.isSome_iff_exists.mp h.1
    have e : PV.nk (.tup l) = some (.tup ks) := by rw [PV.nk, hk]; rfl
    have e2 : PV.kq (.tup l) = .tup ks := by unfold PV.kq; rw [e]; rfl
    exact ⟨by rw [e, e2], ⟨ks, e2⟩, of_decide_eq_true h.2⟩
  · rename_i l
    rw [Bool.and_eq_true] at h
    obtain ⟨ks, hk⟩ := Option.isSome_iff_exists.mp h.1
    have e : PV.nk (.xt l) = some (.tup ks) := by rw [PV.nk, hk]; rfl
    have e2 : PV.kq (.xt l) = .tup ks := by unfold PV.kq; rw [e]; rfl
    exact ⟨by rw [e, e2], ⟨ks, e2⟩, of_decide_eq_true h.2⟩
  · cases h
theorem Rep.kok (e : Same F H) {p : PV} {v : V} (r : Rep K F p v) (h : p.kok = true) : NAt H p.kq v ∧ p.kq.depth ≤ 8 ∧ ikN p.kq = true ∧ ∃ b, v = .ref b := by
  obtain ⟨h1, ⟨ks, h2⟩, h3⟩ := kok_nk h
  have n := Rep.nat e r h1
  refine ⟨n, h3, nk_ik h1, ?_⟩
  rw [h2, NAt] at n
  obtain ⟨a, _, rfl, _⟩ := n
  exact ⟨a, rfl⟩
theorem NAt.mono {H' : Hp} (e : Same H H') : ∀ {k : NestedKey} {v : V}, NAt H k v → NAt H' k v := fun {k v} => by
  refine NestedKey.rec (motive_1 := fun k => ∀ v, NAt H k v → NAt H' k v) (motive_2 := fun ks => ∀ vs, NAts H ks vs → NAts H' ks vs) ?_ ?_ ?_ ?_ ?_ ?_ k v
  · intro v n; rw [NAt] at n; exact n.elim; all_goals (intros; contradiction)
  · intro i v n; rw [NAt] at n ⊢; exact n
  · intro i v n; rw [NAt] at n; exact n.elim; all_goals (intros; contradiction)
  · intro ks ih v n
    rw [NAt] at n ⊢
    obtain ⟨a, xs, h1, h2, h3⟩ := n
    exact ⟨a, xs, h1, Rdm e h2, ih _ h3⟩
  · intro vs n; rw [NAts] at n ⊢; exact n
  · intro k ks h1 h2 vs n
    rw [NAts] at n ⊢
    obtain ⟨x, r, e1, n1, n2⟩ := n
    exact ⟨x, r, e1, h1 _ n1, h2 _ n2⟩
end
/-- what the dict at a holds at the key y -/
def keysX (kvs : List (NestedKey × Addr × V)) : List (NestedKey × V) := kvs.map fun p => (p.1, p.2.2)
def NKs (H : Hp) (kvs : List (NestedKey × Addr × V)) : Prop := ∀ p ∈ kvs, NAt H p.1 (.ref p.2.1) ∧ p.1.depth ≤ 8
def DGetX (H : Hp) (a : Addr) (y : V) (r : Option V) : Prop := ∃ kvs k b, Rd H a (dxO a kvs) ∧ NKs H kvs ∧ y = .ref b ∧ NAt H k y ∧ k.depth ≤ 8 ∧ r = valV (keysX kvs) k
def putX (kvs : List (NestedKey × Addr × V)) (k : NestedKey) (b : Addr) (v : V) : List (NestedKey × Addr × V) :=
  if k ∈ kvs.map (·.1) then kvs.map (fun p => if p.1 = k then (p.1, p.2.1, v) else p) else kvs ++ [(k, b, v)]
def DPutX (H : Hp) (a : Addr) (y v : V) (H' : Hp) : Prop := ∃ kvs k b, H a = some (dxO a kvs) ∧ NKs H kvs ∧ y = .ref b ∧ NAt H k y ∧ k.depth ≤ 8 ∧ ikN k = true ∧ kvs.length < sizeLine ∧ H' = upd H a (dxO a (putX kvs k b v))
section
variable {P : Program} {w : World} {H : Hp} {h : Heap} {a : Addr} {kvs : List (NestedKey × Addr × V)}
theorem KX.val {xs : List (NestedKey × Addr × Value)} (r : KX kvs xs) (k : NestedKey) : RelO (valV (keysX kvs) k) ((atKey xs k).map (·.2)) := by
  induction r with
  | nil => exact True.intro
  | @cons p q ps qs h t ih =>
    obtain ⟨h1, _, h2⟩ := h
    unfold keysX at ih ⊢
    rw [List.map_cons]
    by_cases e : p.1 = k
    · have e' : q.1 = k := h1.symm.trans e
      have b : atKey (q :: qs) k = some q.2 := by simp [atKey, List.find?_cons, e']
      rw [valV_pos e, b]; exact h2
    · have e' : ¬ q.1 = k := fun z => e (h1.trans z)
      have b : atKey (q :: qs) k = atKey qs k := by simp [atKey, List.find?_cons, e']
      rw [valV_neg e, b]; exact ih
theorem KX.has {xs : List (NestedKey × Addr × Value)} (r : KX kvs xs) (k : NestedKey) : k ∈ kvs.map (·.1) ↔ (atKey xs k).isSome = true := by
  induction r with
  | nil => simp [atKey]
  | @cons p q ps qs h t ih =>
    obtain ⟨h1, _, h2⟩ := h
    rw [List.map_cons, List.mem_cons]
    by_cases e : p.1 = k
    · have e' : q.1 = k := h1.symm.trans e
      have b : atKey (q :: qs) k = some q.2 := by simp [atKey, List.find?_cons, e']
      rw [b]; exact ⟨fun _ => rfl, fun _ => .inl e.symm⟩
    · have e' : ¬ q.1 = k := fun z => e (h1.trans z)
      have b : atKey (q :: qs) k = atKey qs k := by simp [atKey, List.find?_cons, e']
      rw [b, ← ih]
      exact ⟨fun z => z.resolve_left fun z => e z.symm, .inr⟩
theorem KX.repl {xs : List (NestedKey × Addr × Value)} (r : KX kvs xs) (k : NestedKey) {y : V} {u : Value} (ry : RelV y u) :
    KX (kvs.map fun p => if p.1 = k then (p.1, p.2.1, y) else p) (xs.map (putAt k u)) := by
  induction r with
  | nil => exact .nil
  | @cons p q ps qs h t ih =>
    rw [List.map_cons, List.map_cons]
    refine .cons ?_ ih
    obtain ⟨h1, h2, h3⟩ := h
    unfold putAt
    by_cases e : p.1 = k
    · rw [if_pos e, if_pos (h1.symm.trans e)]; exact ⟨h1, h2, ry⟩
    · rw [if_neg e, if_neg (fun z => e (h1.trans z))]; exact ⟨h1, h2, h3⟩
theorem KX.put {xs : List (NestedKey × Addr × Value)} (r : KX kvs xs) (k : NestedKey) {b : Addr} {y : V} {u : Value} (ry : RelV y u) : KX (putX kvs k b y) (storedH xs k b u) := by
  unfold putX storedH
  have e := r.has k
  by_cases q : k ∈ kvs.map (·.1)
  · rw [if_pos q, if_pos (e.mp q)]; exact r.repl k ry
  · rw [if_neg q, if_neg (fun z => q (e.mpr z))]; exact Paired.snoc r ⟨rfl, rfl, ry⟩
theorem dx_rd (ok : HOk P w H h) (e : Rd H a (dxO a kvs)) (n : NKs H kvs) : kvs.length ≤ sizeLine ∧ (a == sysModules) = false ∧ (∀ p ∈ kvs, ikN p.1 = true) ∧
    ∃ xs, KX kvs xs ∧ h.DictOfH (nestedKind P w) a xs := by
  obtain ⟨⟨z, hd, hi, xs, r, o, es, ep, h1, h2, h3, h4, h5⟩, _⟩ := (show ObjOk P w H h a (dxO a kvs) from rd_of ok e)
  refine ⟨z, hd, hi, xs, r, o, es, ep, h1, h2, h3, h4 P w, fun x hx => ?_, h5⟩
  have all : ∀ {l : List (NestedKey × Addr × V)} {m : List (NestedKey × Addr × Value)}, KX l m → (∀ p ∈ l, NAt H p.1 (.ref p.2.1) ∧ p.1.depth ≤ 8) → ∀ x ∈ m, (nestedKind P w).is h x.1 x.2.1 := by
    intro l m q
    induction q with
    | nil => intro _ x hx; exact nomatch hx
    | @cons p q ps qs hq t ih =>
      intro hn x hx
      rcases List.mem_cons.mp hx with e | hx
      · subst e
        obtain ⟨n1, n2⟩ := hn p (by simp)
        obtain ⟨e1, e2, _⟩ := hq
        rw [e1] at n1 n2
        rw [e2] at n1
        exact ⟨NAt.is ok n1 rfl, n2⟩
      · exact ih (fun p hp => hn p (List.mem_cons_of_mem _ hp)) x hx
  exact all r n x hx
theorem dx_new {h' : Heap} {H' : Hp} {xs : List (NestedKey × Addr × Value)} (z : kvs.length ≤ sizeLine) (hd : (a == sysModules) = false) (hi : ∀ p ∈ kvs, ikN p.1 = true) (r : KX kvs xs) (dd : h'.DictOfH (nestedKind P w) a xs) : ObjOk P w H' h' a (dxO a kvs) := by
  obtain ⟨o, es, ep, h1, h2, h3, h4, _, h5⟩ := dd
  refine ⟨⟨z, hd, hi, xs, r, o, es, ep, h1, h2, h3, fun P2 w2 => ?_, h5⟩, ⟨o, h1⟩, fun h1 h2 x k => ?_⟩
  · rw [h4]
    have all : ∀ {l : List (NestedKey × Addr × V)} {m : List (NestedKey × Addr × Value)}, KX l m → (∀ p ∈ l, ikN p.1 = true) → m.map (entryOfKey (nestedKind P w)) = m.map (entryOfKey (nestedKind P2 w2)) := by
      intro l m q
      induction q with
      | nil => intro _; rfl
      | @cons p q ps qs hq t ih =>
        intro hn
        rw [List.map_cons, List.map_cons, ih fun p hp => hn p (List.mem_cons_of_mem _ hp)]
        congr 1
        have n1 := hn p (by simp)
        rw [hq.1] at n1
        unfold entryOfKey nestedKind
        dsimp only
        rw [hash_ik w w2 n1]
    exact all r hi
  · obtain ⟨z, hd, hi, xs, r, o, es, ep, h1, h2, h3, h4, h5⟩ := x
    exact ⟨z, hd, hi, xs, r, o, es, ep, k _ h1, h2, h3, h4, h5⟩
end
section
variable {X : Cx} {pins : List (Addr × Obj)} {σ : L2.St} {H : Hp} {s : Shared} {a : Addr} {y v d : V} {u r : Value} {o : Option V} {A : Around} {E : Value → Shared → Prop}
theorem nroom (hu : A.units + 20 < cLine) : (nestedKind X.prog X.w).room A.in1 := by
  show A.in1.units + 8 < cLine
  have : A.in1.units = A.units + 1 := rfl
  omega
theorem dictX_typeIs (I : Inv X pins σ H s) (g : DGetX H a y o) : s.TypeIs (.ref a) "dict" := by
  obtain ⟨kvs, k, b, e, n, _⟩ := g
  obtain ⟨_, _, _, xs, _, dd⟩ := dx_rd I.hok e n
  exact dd.typeIs
/-- d[y], there -/
theorem d_getItemX {Q : Value → Shared → Prop} (hu : A.units + 20 < cLine) (I : Inv X pins σ H s) (g : DGetX H a y (some v)) (ry : RelV y u) (h : ∀ w' s', Inv X pins σ H s' → RelV v w' → Q w' s') :
    wpAny (model X.prog X.w) A (getItem (.ref a) u) Q E s := by
  obtain ⟨kvs, k, b, e, n, rfl, hk, hk8, l⟩ := g
  cases (show u = Value.ref b from ry)
  obtain ⟨z, hd, hi, xs, rel, dd⟩ := dx_rd I.hok e n
  obtain ⟨w', hw, rw'⟩ := RelO.some_of (v := v) (o := (atKey xs k).map (·.2)) (by rw [l]; exact rel.val k)
  obtain ⟨p, hp, hp2⟩ := Option.map_eq_some_iff.mp hw
  refine wpAny_getItem_heap (nroom (X := X) hu) ⟨NAt.is I.hok hk rfl, hk8⟩ dd hp ?_
  rw [hp2]
  exact h w' _ (I.tok _) rw'
/-- d[y] = v -/
theorem d_setItemX {H' : Hp} {Q : Unit → Shared → Prop} (hu : A.units + 20 < cLine) (I : Inv X pins σ H s) (g : DPutX H a y v H') (ry : RelV y u) (rv : RelV v r) (h : ∀ s', Inv X pins σ H' s' → Q () s') :
    wpAny (model X.prog X.w) A (setItem (.ref a) u r) Q E s := by
  obtain ⟨kvs, k, b, e, n, rfl, hk, hk8, hik, l, rfl⟩ := g
  cases (show u = Value.ref b from ry)
  obtain ⟨z, hd, hi, xs, rel, dd⟩ := dx_rd I.hok (.inl e) n
  have hz : xs.length ≤ sizeLine := by rw [← Paired.length rel]; exact z
  have hl : (putX kvs k b v).length ≤ sizeLine := by
    unfold putX
    split
    · rw [List.length_map]; exact z
    · rw [List.length_append, List.length_singleton]; omega
  have hi2 : ∀ p ∈ putX kvs k b v, ikN p.1 = true := fun p hp => by
    unfold putX at hp
    split at hp
    · obtain ⟨q, hq, rfl⟩ := List.mem_map.mp hp
      have := hi q hq
      split <;> exact this
    · rcases List.mem_append.mp hp with hp | hp
      · exact hi p hp
      · rw [List.mem_singleton.mp hp]; exact hik
  refine wpAny_setItem_heap (hsz := hz) (nroom (X := X) hu) ⟨NAt.is I.hok hk rfl, hk8⟩ dd fun h' dd' hs => h _ ?_
  have he : ∃ q, h'.get? a = some q := let ⟨q, _, _, hq, _⟩ := dd'; ⟨q, hq⟩
  exact d_write I (by rw [e]; exact True.intro) hs he (dx_new hl hd hi2 (rel.put k rv) dd')
/-- d.get(y, x) -/
theorem d_get2X {Q : Value → Shared → Prop} (hu : A.units + 20 < cLine) (I : Inv X pins σ H s) (g : DGetX H a y o) (ry : RelV y u) (rd : RelV d r) (h : ∀ w' s', Inv X pins σ H s' → RelV (o.getD d) w' → Q w' s') :
    wpAny (model X.prog X.w) A (call (.builtin "dict.get") [.ref a, u, r]) Q E s := by
  obtain ⟨kvs, k, b, e, n, rfl, hk, hk8, l⟩ := g
  cases (show u = Value.ref b from ry)
  obtain ⟨z, hd, hi, xs, rel, dd⟩ := dx_rd I.hok e n
  refine call_meetsIn PySem.F.slot_dict_get dd.typeIs PySem.F.entry_dict_get (PySem.F.args_dict_get_3 _ _ _) (meetsH_dict_get_default (nestedKind X.prog X.w) a b hd r) ⟨nroom (X := X) hu, k, xs, ⟨NAt.is I.hok hk rfl, hk8⟩, dd, h _ _ (I.tok _) ?_⟩
  rw [l]
  exact (rel.val k).getD rd
end
end Br
set_option maxHeartbeats 1000000
/-! BrE1: calls. -/
namespace Br
open PySem PySem.Spec PyProof.Rows L2

/-- a def's promise by what it computes -/
def spOf (K : PySem.W.Frag) (g : List LV → CR) : Sp := fun vs H Q E => ∃ F ls fp, SR ⟨K, H, F, fp⟩ F (ls.map some) (vs.map some) H ∧ match g ls with
  | .ok r ls' => ∀ v H' F', SR ⟨K, H, F, fp⟩ F' (some r :: maskL ls ls') (some v :: vs.map some) H' → Q v H'
  | .ex c ls' => ∀ H' F', SR ⟨K, H, F, fp⟩ F' (maskL ls ls') (vs.map some) H' → E (.ref (He.ga K c)) none H'
  | .st => False

theorem maskL_len : ∀ {ls ls' : List LV}, ls'.length = ls.length → (maskL ls ls').length = ls.length
  | [], [], _ => rfl
  | [], _ :: _, h => by cases h
  | l :: ls, [], h => by cases h
  | l :: ls, l' :: ls', h => by
    have := maskL_len (ls := ls) (ls' := ls') (by simpa using h)
    simp [maskL, this]
theorem maskL_get : ∀ {ls ls' : List LV} {k : Nat} {o : Option LV}, (maskL ls ls')[k]? = some o → ∃ l l', ls[k]? = some l ∧ ls'[k]? = some l' ∧ o = if l.isFro = true then none else some l'
  | [], _, k, o, h => by simp [maskL] at h
  | l :: ls, [], k, o, h => by simp [maskL] at h
  | l :: ls, l' :: ls', 0, o, h => by
    simp only [maskL, List.getElem?_cons_zero, Option.some.injEq] at h
    exact ⟨l, l', rfl, rfl, h.symm⟩
  | l :: ls, l' :: ls', k + 1, o, h => by
    have := maskL_get (ls := ls) (ls' := ls') (k := k) (o := o) (by simpa [maskL] using h)
    simpa using this

section
variable {C : Cb} {F H : Hp} {ρ : Env} {σ : L2.St}
/-- the addresses that the handed-on names own -/
def fpOf (fp : Nat → List Addr) : List AV → List Addr
  | [] => []
  | .val _ :: as => fpOf fp as
  | .ref i :: as => fp i ++ fpOf fp as
theorem mem_fpOf {fp : Nat → List Addr} {a : Addr} : ∀ {as : List AV}, a ∈ fpOf fp as ↔ ∃ i ∈ AV.refs as, a ∈ fp i
  | [] => by simp [fpOf, AV.refs]
  | .val _ :: as => by
    rw [show fpOf fp (.val _ :: as) = fpOf fp as from rfl, mem_fpOf, show AV.refs (.val _ :: as) = AV.refs as from rfl]
  | .ref i :: as => by
    rw [show fpOf fp (.ref i :: as) = fp i ++ fpOf fp as from rfl, List.mem_append, mem_fpOf, show AV.refs (.ref i :: as) = i :: AV.refs as from rfl]
    constructor
    · rintro (h | ⟨j, h1, h2⟩)
      · exact ⟨i, by simp, h⟩
      · exact ⟨j, by simp [h1], h2⟩
    · rintro ⟨j, h1, h2⟩
      rcases List.mem_cons.mp h1 with rfl | h1
      · exact .inl h2
      · exact .inr ⟨j, h1, h2⟩
/-- the k-th argument's address list -/
def fpAt (fp : Nat → List Addr) (as : List AV) (k : Nat) : List Addr := match as[k]? with
  | some (AV.ref i) => fp i
  | _ => []
theorem lvs_get : ∀ {as : List AV} {ls : List LV} {k : Nat} {l : LV}, AV.lvs ρ as = some ls → ls[k]? = some l → ∃ a, as[k]? = some a ∧ a.lv ρ = some l
  | [], ls, k, l, h, e => by cases h; simp at e
  | a :: as, ls, k, l, h, e => by
    unfold AV.lvs at h
    split at h
    · rename_i p ps h1 h2
      cases h
      cases k with
      | zero => simp at e; subst e; exact ⟨a, rfl, h1⟩
      | succ k => simpa using lvs_get h2 (by simpa using e)
    · cases h
theorem lvs_len : ∀ {as : List AV} {ls : List LV}, AV.lvs ρ as = some ls → ls.length = as.length
  | [], ls, h => by cases h; rfl
  | a :: as, ls, h => by
    unfold AV.lvs at h
    split at h
    · rename_i p ps h1 h2
      cases h
      simp [lvs_len h2]
    · cases h
theorem AVRs.get {K : PySem.W.Frag} : ∀ {as : List AV} {vs : List V} {k : Nat} {a : AV}, AVRs K F σ as vs → as[k]? = some a → ∃ v, vs[k]? = some v ∧ AVR K F σ a v
  | [], vs, k, a, h, e => by simp at e
  | b :: as, vs, k, a, h, e => by
    obtain ⟨v, r, rfl, h2, h3⟩ := h
    cases k with
    | zero => simp at e; subst e; exact ⟨v, rfl, h2⟩
    | succ k => simpa using AVRs.get h3 (by simpa using e)
theorem refs_ix : ∀ {as : List AV} {k : Nat} {i : Nat}, as[k]? = some (AV.ref i) → i ∈ AV.refs as
  | [], k, i, h => by simp at h
  | .val _ :: as, 0, i, h => by simp at h
  | .ref j :: as, 0, i, h => by simp at h; subst h; simp [AV.refs]
  | .val _ :: as, k + 1, i, h => refs_ix (as := as) (by simpa using h)
  | .ref j :: as, k + 1, i, h => by
    have := refs_ix (as := as) (k := k) (i := i) (by simpa using h)
    simp [AV.refs, this]
theorem avAt : ∀ {as : List AV} {i : Nat}, i ∈ AV.refs as → ∃ k : Nat, as[k]? = some (AV.ref i)
  | [], i, h => by simp [AV.refs] at h
  | .val _ :: as, i, h => by
    obtain ⟨k, hk⟩ := avAt (as := as) h
    exact ⟨k + 1, by simpa using hk⟩
  | .ref j :: as, i, h => by
    rcases List.mem_cons.mp (show i ∈ j :: AV.refs as from h) with rfl | h
    · exact ⟨0, rfl⟩
    · obtain ⟨k, hk⟩ := avAt (as := as) h
      exact ⟨k + 1, by simpa using hk⟩
theorem refs_inj : ∀ {as : List AV} {k m : Nat} {i : Nat}, (AV.refs as).Nodup → as[k]? = some (AV.ref i) → as[m]? = some (AV.ref i) → k = m
  | [], k, m, i, _, h, _ => by simp at h
  | .val _ :: as, 0, m, i, _, h, _ => by simp at h
  | .val _ :: as, k + 1, 0, i, _, _, h => by simp at h
  | .val _ :: as, k + 1, m + 1, i, nd, h, h' => congrArg (· + 1) (refs_inj (as := as) nd (by simpa using h) (by simpa using h'))
  | .ref j :: as, 0, 0, i, nd, h, h' => rfl
  | .ref j :: as, 0, m + 1, i, nd, h, h' => by
    simp at h
    subst h
    exact absurd (refs_ix (as := as) (by simpa using h')) (List.nodup_cons.mp nd).1
  | .ref j :: as, k + 1, 0, i, nd, h, h' => by
    simp at h'
    subst h'
    exact absurd (refs_ix (as := as) (by simpa using h)) (List.nodup_cons.mp nd).1
  | .ref j :: as, k + 1, m + 1, i, nd, h, h' => congrArg (· + 1) (refs_inj (as := as) (List.nodup_cons.mp nd).2 (by simpa using h) (by simpa using h'))
/-- a slot behind a call -/
theorem back_get : ∀ {as : List AV} {ms ρ : Env} {j : Nat} {m : LV}, (AV.refs as).Nodup → as.length = ms.length → (AV.back ρ as ms)[j]? = some (some m) →
    (ρ[j]? = some (some m) ∧ ∀ k : Nat, as[k]? = some (AV.ref j) → ms[k]? = some none) ∨ (∃ k : Nat, as[k]? = some (AV.ref j) ∧ ms[k]? = some (some m))
  | [], ms, ρ, j, m, _, _, h => .inl ⟨by simpa [AV.back] using h, fun k hk => by simp at hk⟩
  | _ :: as, [], ρ, j, m, nd, hl, h => by cases hl
  | .val p :: as, o :: ms, ρ, j, m, nd, hl, h => by
    have h' : (AV.back ρ as ms)[j]? = some (some m) := by cases o <;> exact h
    rcases back_get (as := as) nd (by simpa using hl) h' with ⟨q1, q2⟩ | ⟨k, h1, h2⟩
    · refine .inl ⟨q1, fun k hk => ?_⟩
      cases k with
      | zero => simp at hk
      | succ k => simpa using q2 k (by simpa using hk)
    · exact .inr ⟨k + 1, by simpa using h1, by simpa using h2⟩
  | .ref i :: as, none :: ms, ρ, j, m, nd, hl, h => by
    have nd' := List.nodup_cons.mp (show (i :: AV.refs as).Nodup from nd)
    rcases back_get (as := as) nd'.2 (by simpa using hl) (show (AV.back ρ as ms)[j]? = some (some m) from h) with ⟨q1, q2⟩ | ⟨k, h1, h2⟩
    · refine .inl ⟨q1, fun k hk => ?_⟩
      cases k with
      | zero => rfl
      | succ k => simpa using q2 k (by simpa using hk)
    · exact .inr ⟨k + 1, by simpa using h1, by simpa using h2⟩
  | .ref i :: as, some l :: ms, ρ, j, m, nd, hl, h => by
    have nd' := List.nodup_cons.mp (show (i :: AV.refs as).Nodup from nd)
    rcases back_get (as := as) nd'.2 (by simpa using hl) (show (AV.back (ρ.set i (some l)) as ms)[j]? = some (some m) from h) with ⟨q1, q2⟩ | ⟨k, h1, h2⟩
    · rcases set_get q1 with ⟨rfl, z, _⟩ | ⟨z, q1⟩
      · cases z
        exact .inr ⟨0, rfl, rfl⟩
      · refine .inl ⟨q1, fun k hk => ?_⟩
        cases k with
        | zero => simp at hk; exact absurd hk z
        | succ k => simpa using q2 k (by simpa using hk)
    · exact .inr ⟨k + 1, by simpa using h1, by simpa using h2⟩
theorem back_len : ∀ (as : List AV) (ms ρ : Env), (AV.back ρ as ms).length = ρ.length
  | [], ms, _ => by cases ms <;> rfl
  | .val _ :: as, [], _ => rfl
  | .val _ :: as, o :: ms, ρ => by cases o <;> exact back_len as ms ρ
  | .ref i :: as, [], _ => rfl
  | .ref i :: as, none :: ms, ρ => back_len as ms ρ
  | .ref i :: as, some l :: ms, ρ => by
    show (AV.back (ρ.set i (some l)) as ms).length = _
    rw [back_len as ms _, List.length_set]
theorem lv_ref {i : Nat} {l : LV} (h : AV.lv ρ (.ref i) = some l) : ρ[i]? = some (some l) := by
  unfold AV.lv at h
  dsimp only at h
  split at h
  · rename_i l' e; cases h; exact e
  · cases h
/-- INTO a call and out of it -/
theorem call_io (s : SR C F ρ σ H) {as : List AV} {vs : List V} {ls : List LV} (r : AVRs C.K F σ as vs) (hl : AV.lvs ρ as = some ls) (nd : (AV.refs as).Nodup) :
    ∃ fp, SR ⟨C.K, H, F, fp⟩ F (ls.map some) (vs.map some) H ∧
      (∀ l v ls' F' H', SR ⟨C.K, H, F, fp⟩ F' (some l :: maskL ls ls') (some v :: vs.map some) H' → ls'.length = ls.length → SR C F' (some l :: AV.back ρ as (maskL ls ls')) (some v :: σ) H') := by
  obtain ⟨fp, h1, h2⟩ := s.own
  have hal := lvs_len hl
  have hlen : ls.length = vs.length := hal.trans r.length
  have info : ∀ (k : Nat) (l : LV), ls[k]? = some l → ∃ v, vs[k]? = some v ∧ RepL C.K F H l v (fpAt fp as k) ∧ (fpAt fp as k).Nodup ∧ (∀ a ∈ fpAt fp as k, F a = none ∧ C.O a) ∧ (∀ i, as[k]? = some (AV.ref i) → σ[i]? = some (some v) ∧ ρ[i]? = some (some l)) := fun k l e => by
    obtain ⟨a, ha, hla⟩ := lvs_get hl e
    obtain ⟨v, hv, rv⟩ := r.get ha
    refine ⟨v, hv, ?_⟩
    cases a with
    | val p =>
      cases hla
      have e1 : fpAt fp as k = [] := by unfold fpAt; rw [ha]
      rw [e1]
      exact ⟨⟨rv, rfl⟩, List.nodup_nil, (fun a h => absurd h (by simp)), fun i z => by rw [ha] at z; cases z⟩
    | ref i =>
      have hl' := lv_ref hla
      obtain ⟨v', hv', rl, ndp, q⟩ := h1 i l hl'
      have rv' : σ[i]? = some (some v) := rv
      rw [rv'] at hv'
      cases hv'
      have e1 : fpAt fp as k = fp i := by unfold fpAt; rw [ha]
      rw [e1]
      exact ⟨rl, ndp, q, fun j z => by rw [ha] at z; cases z; exact ⟨rv', hl'⟩⟩
  have atk : ∀ (k i : Nat), as[k]? = some (AV.ref i) → ∃ l, ls[k]? = some l ∧ ρ[i]? = some (some l) := fun k i hk => by
    have hkl : k < ls.length := by rw [hal]; exact (List.getElem?_eq_some_iff.mp hk).1
    obtain ⟨_, _, _, _, _, f⟩ := info k _ (List.getElem?_eq_getElem hkl)
    exact ⟨_, List.getElem?_eq_getElem hkl, (f i hk).2⟩
  have inFp : ∀ k a, a ∈ fpAt fp as k → a ∈ fpOf fp as := fun k a ha => by
    unfold fpAt at ha
    split at ha
    · rename_i i e
      exact mem_fpOf.mpr ⟨i, refs_ix e, ha⟩
    · cases ha
  refine ⟨fpOf fp as, ⟨s.le, Same.refl F, fun a o h _ => h, fun a h => .inl h, by simp [hlen], fpAt fp as, fun k l e => ?_, fun k m l l' hkm e e' a ha hb => ?_⟩, fun l v ls' F' H' s' hll => ?_⟩
  · have e' : ls[k]? = some l := by simpa using e
    obtain ⟨v, hv, rl, ndp, q, _⟩ := info k l e'
    exact ⟨v, by simp [hv], rl, ndp, fun a ha => ⟨(q a ha).1, .inl (inFp k a ha)⟩⟩
  · unfold fpAt at ha hb
    split at ha
    · rename_i i ei
      split at hb
      · rename_i j ej
        by_cases hij : i = j
        · subst hij
          exact hkm (refs_inj nd ei ej)
        · obtain ⟨l1, _, g1⟩ := atk k i ei
          obtain ⟨l2, _, g2⟩ := atk m j ej
          exact h2 i j l1 l2 hij g1 g2 a ha hb
      · cases hb
    · cases ha
  · -- back in the caller's frame
    obtain ⟨fq, k1, k2⟩ := s'.own
    have f0 : Same F F' := s'.f0
    have keepH : ∀ a o, H a = some o → a ∉ fpOf fp as → H' a = some o := s'.keep
    have foF : ∀ a, F' a ≠ none → F a ≠ none ∨ (a ∈ fpOf fp as ∨ H a = none ∨ ∃ xs, H a = some (.tup xs)) := s'.fo
    have newO : ∀ a, (a ∈ fpOf fp as ∨ H a = none) → C.O a := fun a h => by
      rcases h with h | h
      · obtain ⟨i, hi, ha⟩ := mem_fpOf.mp h
        obtain ⟨k, hk⟩ := avAt hi
        obtain ⟨l1, _, g1⟩ := atk k i hk
        obtain ⟨_, _, _, _, q⟩ := h1 i l1 g1
        exact (q a ha).2
      · exact s.fresh h
    have notin : ∀ j m, ρ[j]? = some (some m) → j ∉ AV.refs as → ∀ a ∈ fp j, a ∉ fpOf fp as := fun j m hρ hj a ha hb => by
      obtain ⟨i, hi, hai⟩ := mem_fpOf.mp hb
      obtain ⟨k, hk⟩ := avAt hi
      obtain ⟨l1, _, g1⟩ := atk k i hk
      exact h2 j i m l1 (fun w => hj (w ▸ hi)) hρ g1 a ha hai
    have thereH : ∀ j m, ρ[j]? = some (some m) → ∀ a ∈ fp j, ∃ o, H a = some o := fun j m hρ a ha => by
      obtain ⟨_, _, rl, _⟩ := h1 j m hρ
      exact rl.there a ha
    have hml : (maskL ls ls').length = as.length := by rw [maskL_len hll, hal]
    classical
    let P : Nat → Prop := fun j => ∃ (k : Nat) (m : LV), as[k]? = some (AV.ref j) ∧ (maskL ls ls')[k]? = some (some m)
    let gp : Nat → List Addr := fun n => match n with
      | 0 => fq 0
      | j + 1 => if h : P j then fq (Classical.choose h + 1) else fp j
    -- what a slot holds: as it was, or behind the call
    have slot : ∀ j m, (AV.back ρ as (maskL ls ls'))[j]? = some (some m) →
        (gp (j + 1) = fp j ∧ ρ[j]? = some (some m) ∧ (j ∉ AV.refs as ∨ fp j = [])) ∨ (∃ k : Nat, as[k]? = some (AV.ref j) ∧ gp (j + 1) = fq (k + 1) ∧ (maskL ls ls')[k]? = some (some m)) := fun j m hm => by
      rcases back_get nd hml.symm hm with ⟨hρ, hno⟩ | ⟨k, hk, hkm⟩
      · have hP : ¬ P j := fun ⟨k, m', e1, e2⟩ => by
          rw [hno k e1] at e2
          cases e2
        refine .inl ⟨dif_neg hP, hρ, ?_⟩
        by_cases hj : j ∈ AV.refs as
        · refine .inr ?_
          obtain ⟨k, hk⟩ := avAt hj
          obtain ⟨l1, g0, g1⟩ := atk k j hk
          obtain ⟨l2, l3, e1, e2, e3⟩ := maskL_get (hno k hk)
          rw [g0] at e1
          cases e1
          obtain ⟨_, _, rl, _⟩ := h1 j l1 g1
          cases l1 with
          | fro p => exact rl.2
          | own p => simp [LV.isFro] at e3
          | ins c ns ls => simp [LV.isFro] at e3
        · exact .inl hj
      · have hP : P j := ⟨k, m, hk, hkm⟩
        have e1 : gp (j + 1) = fq (Classical.choose hP + 1) := dif_pos hP
        have e2 : Classical.choose hP = k := refs_inj nd (Classical.choose_spec hP).choose_spec.1 hk
        rw [e2] at e1
        exact .inr ⟨k, hk, e1, hkm⟩
    have valB : ∀ (j k : Nat) (m : LV), as[k]? = some (AV.ref j) → (maskL ls ls')[k]? = some (some m) → ∃ v', σ[j]? = some (some v') ∧ RepL C.K F' H' m v' (fq (k + 1)) ∧ (fq (k + 1)).Nodup ∧ ∀ a ∈ fq (k + 1), F' a = none ∧ (a ∈ fpOf fp as ∨ H a = none) := fun j k m hk hkm => by
      obtain ⟨v2, hv2, rl2, nd2, q2⟩ := k1 (k + 1) m (by simpa using hkm)
      obtain ⟨l1, g0, _⟩ := atk k j hk
      obtain ⟨v', hv', _, _, _, f⟩ := info k l1 g0
      have e : v2 = v' := by
        have : (vs.map some)[k]? = some (some v2) := by simpa using hv2
        rw [List.getElem?_map, hv'] at this
        simpa using this.symm
      subst e
      exact ⟨v2, (f j hk).1, rl2, nd2, fun a ha => ⟨(q2 a ha).1, s'.oOwn rl2 ha (q2 a ha).2⟩⟩
    have hlenρ : (AV.back ρ as (maskL ls ls')).length = σ.length := by rw [back_len, s.len]
    refine ⟨s'.le, s.f0.trans f0, fun a o e ha => ?_, fun a e => ?_, by simp [hlenρ], gp, fun n m hm => ?_, fun n n' m m' hnn hm hm' => ?_⟩
    · refine keepH a o (s.keep a o e ha) fun hf => ?_
      rcases newO a (.inl hf) with z | z | ⟨ys, z⟩
      · exact ha z
      · rw [e] at z; cases z
      · obtain ⟨i, hi, hai⟩ := mem_fpOf.mp hf
        obtain ⟨k, hk⟩ := avAt hi
        obtain ⟨l1, _, g1⟩ := atk k i hk
        obtain ⟨_, _, rl, _⟩ := h1 i l1 g1
        exact rl.noTup a hai ys (s.keep a _ z ha)
    · rcases foF a e with z | z
      · exact s.fo a z
      · rcases z with z | z | ⟨ys, z⟩
        · exact .inr (newO a (.inl z))
        · exact .inr (newO a (.inr z))
        · exact .inr (s.oTup z)
    · cases n with
      | zero =>
        simp only [List.getElem?_cons_zero, Option.some.injEq] at hm
        obtain ⟨v', hv', rl, nd1, q⟩ := k1 0 m (by simpa using hm)
        have e : v' = v := by simpa using hv'.symm
        subst e
        exact ⟨v', rfl, rl, nd1, fun a ha => ⟨(q a ha).1, newO a (s'.oOwn rl ha (q a ha).2)⟩⟩
      | succ j =>
        rcases slot j m (by simpa using hm) with ⟨eg, hρ, hj⟩ | ⟨k, hk, eg, hkm⟩
        · rw [eg]
          obtain ⟨v', hv', rl, ndp, q⟩ := h1 j m hρ
          refine ⟨v', by simpa using hv', ?_, ndp, fun a ha => ⟨?_, (q a ha).2⟩⟩
          · refine rl.frame f0 fun a ha => ?_
            rcases hj with hj | hj
            · obtain ⟨o, ho⟩ := rl.there a ha
              rw [keepH a o ho (notin j m hρ hj a ha), ho]
            · rw [hj] at ha; cases ha
          · rcases hj with hj | hj
            · cases z : F' a with
              | none => rfl
              | some o =>
                rcases foF a (by rw [z]; exact fun w => nomatch w) with w | w | w | ⟨ys, w⟩
                · exact absurd (q a ha).1 w
                · exact absurd w (notin j m hρ hj a ha)
                · obtain ⟨o', ho⟩ := rl.there a ha
                  rw [ho] at w; cases w
                · exact absurd w (rl.noTup a ha ys)
            · rw [hj] at ha; cases ha
        · rw [eg]
          obtain ⟨v', e1, e2, e3, e4⟩ := valB j k m hk hkm
          exact ⟨v', by simpa using e1, e2, e3, fun a ha => ⟨(e4 a ha).1, newO a (e4 a ha).2⟩⟩
    · -- apart
      have apartA : ∀ j m, ρ[j]? = some (some m) → (j ∉ AV.refs as ∨ fp j = []) → ∀ a, (a ∈ fpOf fp as ∨ H a = none) → a ∉ fp j := fun j m hρ hj a hz hb => by
        rcases hj with hj | hj
        · rcases hz with hz | hz
          · exact notin j m hρ hj a hb hz
          · obtain ⟨o, ho⟩ := thereH j m hρ a hb
            rw [ho] at hz; cases hz
        · rw [hj] at hb; cases hb
      cases n with
      | zero =>
        cases n' with
        | zero => exact absurd rfl hnn
        | succ j =>
          have hz0 : ∀ a ∈ fq 0, (a ∈ fpOf fp as ∨ H a = none) := fun a ha => by
            obtain ⟨_, _, r0, _, q⟩ := k1 0 l rfl
            exact s'.oOwn r0 ha (q a ha).2
          rcases slot j m' (by simpa using hm') with ⟨eg, hρ, hj⟩ | ⟨k, hk, eg, hkm⟩
          · rw [eg]
            exact fun a ha => apartA j m' hρ hj a (hz0 a ha)
          · rw [eg]
            exact k2 0 (k + 1) l m' (by omega) rfl (by simpa using hkm)
      | succ i =>
        cases n' with
        | zero =>
          have hz0 : ∀ a ∈ fq 0, (a ∈ fpOf fp as ∨ H a = none) := fun a ha => by
            obtain ⟨_, _, r0, _, q⟩ := k1 0 l rfl
            exact s'.oOwn r0 ha (q a ha).2
          rcases slot i m (by simpa using hm) with ⟨eg, hρ, hj⟩ | ⟨k, hk, eg, hkm⟩
          · rw [eg]
            exact fun a ha hb => apartA i m hρ hj a (hz0 a hb) ha
          · rw [eg]
            exact k2 (k + 1) 0 m l (by omega) (by simpa using hkm) rfl
        | succ j =>
          have hij : i ≠ j := fun w => hnn (by rw [w])
          rcases slot i m (by simpa using hm) with ⟨eg, hρ, hj⟩ | ⟨k, hk, eg, hkm⟩
          · rw [eg]
            rcases slot j m' (by simpa using hm') with ⟨eg', hρ', hj'⟩ | ⟨k', hk', eg', hkm'⟩
            · rw [eg']
              exact h2 i j m m' hij hρ hρ'
            · rw [eg']
              obtain ⟨_, _, _, _, e4⟩ := valB j k' m' hk' hkm'
              exact fun a ha hb => apartA i m hρ hj a (e4 a hb).2 ha
          · rw [eg]
            obtain ⟨_, _, _, _, e4⟩ := valB i k m hk hkm
            rcases slot j m' (by simpa using hm') with ⟨eg', hρ', hj'⟩ | ⟨k', hk', eg', hkm'⟩
            · rw [eg']
              exact fun a ha => apartA j m' hρ' hj' a (e4 a ha).2
            · rw [eg']
              have hkk : k ≠ k' := fun w => by
                subst w
                rw [hk] at hk'
                cases hk'
                exact hij rfl
              exact k2 (k + 1) (k' + 1) m m' (by omega) (by simpa using hkm) (by simpa using hkm')
end
end Br
set_option maxHeartbeats 1000000
/-! BrE2: the rules of expressions. -/
namespace Br
open PySem PySem.Spec PyProof.Rows L2

/-- what a context must have -/
structure XO (X : Cx) (C : Cb) : Prop where
  K : C.K = X.K
  nd : X.N.Nodup
  un : X.A.units + 131 < cLine
/-- .. where no exception is handled -/
structure XC (X : Cx) (C : Cb) : Prop extends XO X C where
  calm : X.calm = true

/-- a value that may be our own, on top of the slots -/
def PostL (C : Cb) (W : WX) (σ : L2.St) (F : Hp) (r : ER LV) (k : LV → Env → Hp → Hp → V → Prop) : Prop := match r with
  | .ok l ρ => ∀ F' H' v, Same F F' → SR C F' (some l :: ρ) (some v :: σ) H' → k l ρ F' H' v
  | .ex c ρ => ∀ F' H', Same F F' → SR C F' ρ σ H' → W (.ref (He.ga C.K c)) none σ H'
  | .st => False
section
variable {C : Cb} {W : WX} {σ : L2.St} {F F1 H : Hp} {ρ : Env} {α : Type}
theorem PostL.mono {r : ER LV} {k : LV → Env → Hp → Hp → V → Prop} (h : PostL C W σ F r k) (e : Same F F1) : PostL C W σ F1 r k := by
  cases r with
  | ok a ρ => exact fun F' H' v e' s => h F' H' v (e.trans e') s
  | ex c ρ => exact fun F' H' e' s => h F' H' (e.trans e') s
  | st => exact h
theorem PostL.imp {r : ER LV} {k k' : LV → Env → Hp → Hp → V → Prop} (h : PostL C W σ F r k) (i : ∀ l ρ F' H' v, Same F F' → SR C F' (some l :: ρ) (some v :: σ) H' → k l ρ F' H' v → k' l ρ F' H' v) : PostL C W σ F r k' := by
  cases r with
  | ok a ρ => exact fun F' H' v e' s => i _ _ _ _ _ e' s (h F' H' v e' s)
  | ex c ρ => exact fun F' H' e' s => h F' H' e' s
  | st => exact h
theorem PostL.bindV {r : ER α} {f : α → Env → ER LV} {k : LV → Env → Hp → Hp → V → Prop} (h : PostL C W σ F (r.bind f) k) : Post C W σ F r fun a ρ1 F1 _ => PostL C W σ F1 (f a ρ1) k := by
  cases r with
  | ok a ρ => exact fun F' H' e' s => h.mono e'
  | ex c ρ => exact fun F' H' e' s => h F' H' e' s
  | st => exact h
/-- frozen behind -/
theorem SR.popL {l : LV} {v : V} {p : PV} (s : SR C F (some l :: ρ) (some v :: σ) H) (h : l.pv = some p) : ∃ F', Same F F' ∧ SR C F' ρ σ H ∧ Rep C.K F' p v := by
  cases l with
  | fro q => cases h; obtain ⟨s', r⟩ := s.popFro; exact ⟨F, Same.refl F, s', r⟩
  | own q => cases h; exact s.popOwn
  | ins c ns ls => cases h
end

section
variable (C : Cb) (Φ : Nat → List LV → CR) (W : WX)
def tL' (e : Ex) : TE := fun σ H Q => ∃ ρ F, SR C F ρ σ H ∧ PostL C W σ F (evL Φ e ρ) fun _ _ _ H' v => Q v H'
/-- an operation -/
def tO (o : Op) (as : List Arg) : TE := fun σ H Q => tAs C Φ W as σ H fun vs H1 => rOp C.K o vs H1 Q
/-- a method -/
def tM (o : Op) (a : Arg) (as : List Arg) : TE := fun σ H Q => tA1 C Φ W a σ H fun x H1 => (∃ F p, Same F H1 ∧ recvOk o (some p) = true ∧ RepB C.K F H1 p x) ∧ tAs C Φ W as σ H1 fun vs H2 => rOp C.K o (x :: vs) H2 Q
end

section
variable {C : Cb} {Φ : Nat → List LV → CR} {W : WX} {X : Cx} {a b c e : Expr} {es : List Expr} {pos p : Pos} {x : Str}
/-! ### from reading to reading -/
theorem tA1.imp {ir : Arg} {σ : L2.St} {H : Hp} {Q Q' : VK} (h : tA1 C Φ W ir σ H Q) (i : ∀ v H', Q v H' → Q' v H') : tA1 C Φ W ir σ H Q' := by
  obtain ⟨ρ, F, s, q⟩ := h
  exact ⟨ρ, F, s, q.imp fun _ _ _ _ _ _ k v r => i _ _ (k v r)⟩
theorem tAs.imp {ir : List Arg} {σ : L2.St} {H : Hp} {Q Q' : List V → Hp → Prop} (h : tAs C Φ W ir σ H Q) (i : ∀ v H', Q v H' → Q' v H') : tAs C Φ W ir σ H Q' := by
  obtain ⟨ρ, F, s, q⟩ := h
  exact ⟨ρ, F, s, q.imp fun _ _ _ _ _ _ k v r => i _ _ (k v r)⟩
theorem tO_1 {o : Op} {a : Arg} {σ : L2.St} {H : Hp} {Q : VK} (q : tO C Φ W o [a] σ H Q) : tA1 C Φ W a σ H fun x H1 => rOp C.K o [x] H1 Q := by
  obtain ⟨ρ, F, s, p⟩ := tAs_cons q
  exact ⟨ρ, F, s, p.imp fun a ρ1 F1 H1 e1 s1 k v r => tAs_nil (k v r)⟩
theorem tO_2 {o : Op} {a b : Arg} {σ : L2.St} {H : Hp} {Q : VK} (q : tO C Φ W o [a, b] σ H Q) : tA1 C Φ W a σ H fun x H1 => tA1 C Φ W b σ H1 fun y H2 => rOp C.K o [x, y] H2 Q := by
  obtain ⟨ρ, F, s, p⟩ := tAs_cons q
  refine ⟨ρ, F, s, p.imp fun a ρ1 F1 H1 e1 s1 k v r => ?_⟩
  obtain ⟨ρ, F, s, p⟩ := tAs_cons (k v r)
  exact ⟨ρ, F, s, p.imp fun a ρ1 F1 H1 e1 s1 k v r => tAs_nil (k v r)⟩
theorem e_op {o : Op} {as : List Arg} (h : PE X e (tO C Φ W o as)) : PE X e (tE C Φ W (.app o as)) := h.weak fun _ _ _ q => tE_app q
theorem e_mth {o : Op} {a : Arg} {as : List Arg} (h : PE X e (tM C Φ W o a as)) : PE X e (tE C Φ W (.mth o a as)) := h.weak fun _ _ _ q => tE_mth q
/-- the operation's object is kept as our own -/
theorem ResR.keepL {F H H' : Hp} {ρ : Env} {σ : L2.St} {o : Op} {r : PV} {v : V} (s : SR C F ρ σ H) (h : ResR C.K F H o.new r v H') : ∃ F', Same F F' ∧ SR C F' (some (ownV o r) :: ρ) (some v :: σ) H' := by
  unfold ownV
  by_cases hn : o.new = true
  · rw [if_pos hn]
    rw [hn] at h
    obtain ⟨F', e, s'⟩ := h.own s
    exact ⟨F', e, by cases r <;> exact s'⟩
  · rw [if_neg hn]
    obtain ⟨F', e, s', r'⟩ := h.fro s
    exact ⟨F', e, s'.push r'⟩
theorem l_op {o : Op} {as : List Arg} (h : PE X e (tO C Φ W o as)) : PE X e (tL' C Φ W (.app o as)) := h.weak fun σ H Q q => by
  obtain ⟨ρ, F, s, p⟩ := q
  have p : PostL C W σ F ((evE Φ (.app o as) ρ).bind fun p ρ1 => .ok (ownV o p) ρ1) fun _ _ _ H' v => Q v H' := p
  have p := p.bindV
  unfold evE at p
  refine ⟨ρ, F, s, p.bind.imp fun as ρ1 F1 H1 e1 s1 k vs r => ?_⟩
  obtain ⟨x, hx, k⟩ := k.of
  obtain ⟨ps, h1, h2⟩ := Option.bind_eq_some_iff.mp hx
  obtain ⟨ps', hb', h2'⟩ := opX_sem (r.b s1 h1) h2
  refine ⟨F1, ps', x, s1.le, hb', h2', fun v H2 h3 => ?_⟩
  obtain ⟨F3, e3, s3⟩ := ResR.keepL s1 h3
  exact k F1 H1 (Same.refl F1) s1 F3 H2 v e3 s3
/-- a value that is frozen anyway -/
theorem l_of {ir : Ex} (h : PE X e (tE C Φ W ir)) (hl : ∀ ρ, evL Φ ir ρ = (evE Φ ir ρ).bind fun p ρ1 => .ok (.fro p) ρ1 := by intro _; rfl) : PE X e (tL' C Φ W ir) := h.weak fun σ H Q q => by
  obtain ⟨ρ, F, s, p⟩ := q
  rw [hl] at p
  exact ⟨ρ, F, s, p.bindV.imp fun p ρ1 F1 H1 e1 s1 k v r => k F1 H1 v (Same.refl F1) (s1.push r)⟩
/-- an own value, frozen -/
theorem e_ofL {ir : Ex} (h : PE X e (tL' C Φ W ir)) (hl : ∀ ρ, evE Φ ir ρ = froE (evL Φ ir ρ)) : PE X e (tE C Φ W ir) := h.weak fun σ H Q q => by
  obtain ⟨ρ, F, s, p⟩ := q
  refine ⟨ρ, F, s, ?_⟩
  rw [hl] at p
  unfold froE at p
  cases hr : evL Φ ir ρ with
  | ok l ρ1 =>
    rw [hr] at p
    intro F' H' v e' s'
    have p : Post C W σ F (ER.of l.pv ρ1) fun p _ F' H' => ∀ v, Rep C.K F' p v → Q v H' := p
    obtain ⟨x, hx, k⟩ := p.of
    obtain ⟨F2, e2, s2, r2⟩ := SR.popL s' hx
    exact k F2 H' (e'.trans e2) s2 v r2
  | ex c ρ1 =>
    rw [hr] at p
    exact p
  | st =>
    rw [hr] at p
    exact p

/-! ### names, constants -/
theorem e_var {i : Nat} (hN : X.N[i]? = some x) (hv : Vis X.env.scope x) (hd : (x == ("__debug__" : Str)) = false := by decide) (hcd : (x == ("__classdict__" : Str)) = false := by decide) : PE X (.Name x p) (tE C Φ W (.var i)) :=
  (pe_var hN hv hd hcd).weak fun _ _ _ q => tE_var q
theorem a_var {i : Nat} (hN : X.N[i]? = some x) (hv : Vis X.env.scope x) (hd : (x == ("__debug__" : Str)) = false := by decide) (hcd : (x == ("__classdict__" : Str)) = false := by decide) : PE X (.Name x p) (tA1 C Φ W (.ref i)) :=
  (pe_var hN hv hd hcd).weak fun _ _ _ q => tA1_var q
theorem a_val {ir : Ex} (h : PE X e (tE C Φ W ir)) : PE X e (tA1 C Φ W (.val ir)) := h.weak fun _ _ _ q => tA1_of q
theorem tE_cst {c : PV} {v : V} {σ : L2.St} {H : Hp} {Q : VK} (hr : ∀ K F, Rep K F c v) (q : tE C Φ W (.cst c) σ H Q) : tC v σ H Q := by
  obtain ⟨ρ, F, s, p⟩ := q
  unfold evE at p
  exact p F H (Same.refl F) s v (hr _ _)
theorem e_int {i : Int} {j} : PE X (.Constant (.int i) j pos) (tE C Φ W (.cst (.int i))) := pe_int.weak fun _ _ _ q => tE_cst (c := .int i) (fun _ _ => rfl) q
theorem e_bl {i : Bool} {j} : PE X (.Constant (.bool i) j pos) (tE C Φ W (.cst (.bl i))) := pe_bl.weak fun _ _ _ q => tE_cst (c := .bl i) (fun _ _ => rfl) q
theorem e_non {j} : PE X (.Constant .none j pos) (tE C Φ W (.cst .non)) := pe_non.weak fun _ _ _ q => tE_cst (c := .non) (fun _ _ => rfl) q
/-! ### argument lists -/
theorem as_nil : PA X [] (tAs C Φ W []) := pa_nil.weak fun _ _ _ q => tAs_nil q
theorem as_cons {ir : Arg} {irs : List Arg} (h : PE X e (tA1 C Φ W ir)) (hr : PA X es (tAs C Φ W irs)) (hs : starEach (e :: es) X.env = (false, eval e X.env) :: starEach es X.env := by rfl) : PA X (e :: es) (tAs C Φ W (ir :: irs)) :=
  (pa_cons h hr hs).weak fun _ _ _ q => tAs_cons q
theorem es_nil : PA X [] (tEs C Φ W []) := pa_nil.weak fun _ _ _ q => tEs_nil q
theorem es_cons {ir : Ex} {irs : List Ex} (h : PE X e (tE C Φ W ir)) (hr : PA X es (tEs C Φ W irs)) (hs : starEach (e :: es) X.env = (false, eval e X.env) :: starEach es X.env := by rfl) : PA X (e :: es) (tEs C Φ W (ir :: irs)) :=
  (pa_cons h hr hs).weak fun _ _ _ q => tEs_cons q

/-! ### operations -/
theorem o_bin {op : Operator} {o : Op} {ia ib : Arg} (ho : OpR X (binaryOp op) (R2of C.K o)) (ha : PE X a (tA1 C Φ W ia)) (hb : PE X b (tA1 C Φ W ib)) : PE X (.BinOp a op b pos) (tO C Φ W o [ia, ib]) :=
  (pe_op ho ha hb).weak fun _ _ _ q => tO_2 q
theorem o_cmp {op : CmpOp} {o : Op} {ia ib : Arg} (ho : OpR X (compareOp op) (R2of C.K o)) (hm : behindInMarks op b = false) (ha : PE X a (tA1 C Φ W ia)) (hb : PE X b (tA1 C Φ W ib)) : PE X (.Compare a [op] [b] pos) (tO C Φ W o [ia, ib]) :=
  (pe_cmpR ho ha hb hm).weak fun _ _ _ q => tO_2 q
theorem o_cmpC {op : CmpOp} {o : Op} {ia : Arg} {v : V} (ho : OpR X (compareOp op) (fun x y H Q => y = v ∧ rOp C.K o [x] H Q)) (hm : behindInMarks op b = false) (ha : PE X a (tA1 C Φ W ia)) (hb : PE X b (tC v)) : PE X (.Compare a [op] [b] pos) (tO C Φ W o [ia]) :=
  (pe_cmpR ho ha hb hm).weak fun _ _ _ q => (tO_1 q).imp fun _ _ k => ⟨rfl, k⟩
theorem o_neg (o : XO X C) {ia : Arg} (ha : PE X a (tA1 C Φ W ia)) : PE X (.UnaryOp .USub a pos) (tO C Φ W .neg [ia]) :=
  (pe_un ur_neg ha).weak fun _ _ _ q => by rw [← o.K]; exact tO_1 q
/-- a builtin function; a builtin type -/
theorem o_blt {id : String} {o : Op} {irs : List Arg} (hc : CallR X (.builtin id) (fun xs H Q => rOp C.K o xs H Q)) (hg : Gl X x) (hm : X.mg x = none) (hv : bootBuiltins x = some (.builtin id)) (ha : PA X (e :: es) (tAs C Φ W irs)) (hn : x ≠ "__name__" := by decide) (hdb : (x == ("__debug__" : Str)) = false := by decide)
    (he : starEach (e :: es) X.env = (false, eval e X.env) :: starEach es X.env := by rfl) (hpl : (backTo pos (starEach es X.env)).any (·.1) = false := by rfl) : PE X (.Call (.Name x p) (e :: es) [] pos) (tO C Φ W o irs) :=
  (pe_callB hc hg hm hv ha hn hdb he hpl).weak fun _ _ _ q => q
theorem o_ty {id : String} {o : Op} {irs : List Arg} (hc : CallR X (.type id) (fun xs H Q => rOp C.K o xs H Q)) (hg : Gl X x) (hm : X.mg x = none) (hv : bootBuiltins x = some (.type id)) (ha : PA X (e :: es) (tAs C Φ W irs)) (hn : x ≠ "__name__" := by decide) (hdb : (x == ("__debug__" : Str)) = false := by decide)
    (he : starEach (e :: es) X.env = (false, eval e X.env) :: starEach es X.env := by rfl) (hpl : (backTo pos (starEach es X.env)).any (·.1) = false := by rfl) : PE X (.Call (.Name x p) (e :: es) [] pos) (tO C Φ W o irs) :=
  (pe_callTy hc hg hm hv ha hn hdb he hpl).weak fun _ _ _ q => q
/-- isinstance(x, T) -/
theorem o_isT1 {c : String} {ia : Arg} (hg : Gl X "isinstance") (hm : X.mg "isinstance" = none) (o : XO X C) (ha : PE X a (tA1 C Φ W ia)) (hb : PE X b (tC (.ty c)))
    (he : starEach [a, b] X.env = (false, eval a X.env) :: starEach [b] X.env := by rfl) (he2 : starEach [b] X.env = (false, eval b X.env) :: starEach [] X.env := by rfl) (hpl : (backTo pos (starEach [b] X.env)).any (·.1) = false := by rfl) :
    PE X (.Call (.Name "isinstance" p) [a, b] [] pos) (tO C Φ W (.isTy [c]) [ia]) :=
  (pe_callB (cr_isTy1 (c := c)) hg hm boot_isinstance (pa_cons ha (pa_cons hb pa_nil he2) he) (by decide) (by decide) he hpl).weak fun σ H Q q =>
    (tO_1 q).imp fun v H' k => ⟨v, rfl, by rw [← o.K]; exact k⟩
/-- a[b] -/
theorem o_ix (o : XO X C) {ia ib : Arg} (ha : PE X a (tA1 C Φ W ia)) (hb : PE X b (tA1 C Φ W ib)) (hs : PlainIx b := by intro _ _; rfl) : PE X (.Subscript a b pos) (tO C Φ W .idx [ia, ib]) :=
  (pe_ix (ir_idx (by have := o.un; omega)) ha hb hs).weak fun _ _ _ q => by rw [← o.K]; exact tO_2 q
/-! slices -/
theorem rOp_int {K : PySem.W.Frag} {lo hi : Bool} {x y : V} {ys : List V} {H : Hp} {Q : VK} (h : rOp K (.slc lo hi) (x :: y :: ys) H Q) (hb : (lo || hi) = true) : ∃ i, y = .int i := by
  obtain ⟨F, ps, r, e, rb, hs, _⟩ := h
  cases ps with
  | nil => cases rb
  | cons p ps =>
    obtain ⟨v, rr, ee, _, rb⟩ := rb
    cases ee
    have hs : slcP lo hi (p :: ps) = some r := hs
    unfold slcP at hs
    dsimp only at hs
    cases ps with
    | nil => cases rb
    | cons q ps =>
      obtain ⟨v', rr', ee', rq, rb'⟩ := rb
      cases ee'
      have hi : ∃ i, q = .int i := by
        cases lo with
        | true =>
          cases q with
          | int i => exact ⟨i, rfl⟩
          | _ => simp [slcPart] at hs
        | false =>
          cases hi with
          | true =>
            cases q with
            | int i => exact ⟨i, rfl⟩
            | _ => simp [slcPart] at hs
          | false => cases hb
      obtain ⟨i, rfl⟩ := hi
      exact ⟨i, rq⟩
theorem o_sl10 (o : XO X C) {ia ib : Arg} (ha : PE X a (tA1 C Φ W ia)) (hb : PE X b (tA1 C Φ W ib)) {p2 : Pos} : PE X (.Subscript a (.Slice (some b) none none p2) pos) (tO C Φ W (.slc true false) [ia, ib]) :=
  (pe_slice sr_slc ha (po_some hb) po_none).weak fun _ _ _ q => by
    refine (tO_2 q).imp fun x H' k => k.imp fun y H2 k2 => ?_
    obtain ⟨i, rfl⟩ := rOp_int k2 rfl
    refine ⟨i, rfl, ?_⟩
    show rOp X.K _ _ _ _
    rw [← o.K]; exact k2
theorem o_sl01 (o : XO X C) {ia ib : Arg} (ha : PE X a (tA1 C Φ W ia)) (hb : PE X b (tA1 C Φ W ib)) {p2 : Pos} : PE X (.Subscript a (.Slice none (some b) none p2) pos) (tO C Φ W (.slc false true) [ia, ib]) :=
  (pe_slice sr_slc ha po_none (po_some hb)).weak fun _ _ _ q => by
    refine (tO_2 q).imp fun x H' k => k.imp fun y H2 k2 => ?_
    obtain ⟨i, rfl⟩ := rOp_int k2 rfl
    refine ⟨i, rfl, ?_⟩
    show rOp X.K _ _ _ _
    rw [← o.K]; exact k2
end
end Br
set_option maxHeartbeats 1000000
/-! BrZ: zip of two sequences, each a list or a tuple. -/
namespace Br
open PySem PySem.Spec PyProof.Rows L2
/-- a kind of sequence, with its iterator -/
structure Kd where
  cls : String
  is : Heap → Addr → Array Value → Prop
  it : Heap → Addr → Addr → Nat → Prop
  sq : PySem.W.Frag → Hp → Addr → List V → Prop
  isE : ∀ {h h' : Heap} {a b : Addr} {xs : Array Value}, is h a xs → Heap.ExtBut b h h' → a ≠ b → is h' a xs
  isP : ∀ {h : Heap} {a : Addr} {xs : Array Value}, is h a xs → ∀ o, is (h.push o) a xs
  isL : ∀ {h : Heap} {a : Addr} {xs : Array Value}, is h a xs → a < h.objs.size
  itE : ∀ {h h' : Heap} {a b l : Addr} {i : Nat}, it h a l i → Heap.ExtBut b h h' → a ≠ b → it h' a l i
  itA : ∀ {h h' : Heap} {a l : Addr} {i : Nat}, it h a l i → (∀ o, h.get? a = some o → h'.get? a = some o) → it h' a l i
  itD : ∀ {h : Heap} {a l : Addr} {i : Nat}, it h a l i → ∃ o fs, h.get? a = some o ∧ o.data = .fields fs
  itN : ∀ {h : Heap} {a l : Addr}, h.get? a = some { cls := .type cls, data := .fields #[.ref l, .int 0 0] } → it h a l 0
  item : ∀ {prog : Program} {w : World} {A : Around} {E : Value → Shared → Prop} {s : Shared} {t l : Addr} {i : Nat} {items : Array Value} {x : Value} {Q : Value → Shared → Prop}, it s.heap t l i → is s.heap l items → items[i]? = some x →
    (∀ h', it h' t l (i + 1) → Heap.SameBut t s.heap h' → Q x { s with heap := h' }) → wpAny (model prog w) A (Builtin.SmallTypes.nextOf (.ref t)) Q E s
  fin : ∀ {prog : Program} {w : World} {A : Around} {E : Value → Shared → Prop} {s : Shared} {t l : Addr} {i : Nat} {items : Array Value} {Q : Value → Shared → Prop}, A.handled = none → it s.heap t l i → is s.heap l items → items[i]? = none →
    (∀ h' e, Heap.ExtBut t s.heap h' → (∃ o, h'.get? e = some o ∧ o.cls = .type "StopIteration") → E (.ref e) { s with heap := h' }) → wpAny (model prog w) A (Builtin.SmallTypes.nextOf (.ref t)) Q E s
  iter : ∀ {prog : Program} {w : World} {A : Around} {E : Value → Shared → Prop} {s : Shared} {l : Addr} {items : Array Value} {Q : Value → Shared → Prop}, is s.heap l items →
    Q (.ref s.heap.objs.size) { s with heap := s.heap.push { cls := .type cls, data := .fields #[.ref l, .int 0 0] } } → wpAny (model prog w) A (pyIter (.ref l)) Q E s
  rd : ∀ {X : Cx} {pins : List (Addr × Obj)} {σ : L2.St} {H : Hp} {s : Shared} {a : Addr} {xs : List V}, Inv X pins σ H s → sq X.K H a xs → ∃ its : List Value, Vals xs its ∧ is s.heap a its.toArray
  inj : ∀ {X : Cx} {pins : List (Addr × Obj)} {σ : L2.St} {H : Hp} {s : Shared} {a : Addr} {xs ys : List V}, Inv X pins σ H s → sq X.K H a xs → sq X.K H a ys → xs = ys
section
variable {prog : Program} {w : World} {A : Around} {E : Value → Shared → Prop} {s : Shared} (K1 K2 : Kd)
variable {K1 K2}
variable {z TI TO i1 i2 l1 l2 : Addr} {k1 k2 : Nat} {xs ys : Array Value} {x y a b : Value}
end
/-! the zip object -/
section
variable {prog : Program} {w : World} {A : Around} {E : Value → Shared → Prop} {s : Shared}
end
/-! the loop over it -/
end Br
set_option maxHeartbeats 1000000
/-! BrE3: displays, tests, calls, what loops walk. -/
namespace Br
open PySem PySem.Spec PyProof.Rows L2

theorem ER.bind_assoc {α β γ : Type} (r : ER α) (f : α → Env → ER β) (g : β → Env → ER γ) : (r.bind f).bind g = r.bind fun a ρ => (f a ρ).bind g := by cases r <;> rfl

section
variable {C : Cb} {Φ : Nat → List LV → CR} {W : WX} {X : Cx} {a b c e : Expr} {es : List Expr} {pos p : Pos} {x : Str}
/-! ### displays -/
theorem e_tup {k : Nat} {irs : List Ex} (h : PA X es (tEs C Φ W irs)) : PE X (.Tuple es k pos) (tE C Φ W (.tup irs)) := (pe_tup h).weak fun σ H Q q => by
  obtain ⟨ρ, F, s, q⟩ := q
  unfold evE at q
  refine ⟨ρ, F, s, q.bind.imp fun ps ρ1 F1 H1 e1 s1 k1 xs r => ?_⟩
  split at k1
  · rename_i hl
    refine ⟨by rw [← r.length]; exact lim_line hl, fun p hf => ?_⟩
    have e2 : Same F1 (upd F1 p (.tup xs)) := same_updF (s1.fnone hf)
    exact k1 _ _ e2 (s1.alloc hf _) _ ⟨p, xs, rfl, upd_same, r.mono e2⟩
  · exact False.elim k1
theorem l_lst {irs : List Ex} (h : PA X es (tEs C Φ W irs)) : PE X (.List es pos) (tL' C Φ W (.lst irs)) := (pe_lst h).weak fun σ H Q q => by
  obtain ⟨ρ, F, s, q⟩ := q
  have q : PostL C W σ F ((evE Φ (.lst irs) ρ).bind fun p ρ1 => .ok (.own p) ρ1) fun _ _ _ H' v => Q v H' := q
  have q := q.bindV
  unfold evE at q
  refine ⟨ρ, F, s, q.bind.imp fun ps ρ1 F1 H1 e1 s1 k1 xs r => ?_⟩
  split at k1
  · rename_i hl
    refine ⟨by rw [← r.length]; exact lim_line hl, fun p hf => ?_⟩
    exact k1 F1 H1 (Same.refl F1) s1 F1 _ _ (Same.refl F1) (s1.pushNew hf ⟨xs, upd_same, r⟩)
  · exact False.elim k1
theorem e_lst {irs : List Ex} (h : PE X e (tL' C Φ W (.lst irs))) : PE X e (tE C Φ W (.lst irs)) := e_ofL h fun ρ => by
  show evE Φ (.lst irs) ρ = ER.bind ((evE Φ (.lst irs) ρ).bind fun p ρ1 => ER.ok (LV.own p) ρ1) (fun l ρ => ER.of l.pv ρ)
  rw [ER.bind_assoc]
  cases evE Φ (.lst irs) ρ <;> rfl
theorem l_dnew : PE X (.Dict [] [] pos) (tL' C Φ W .dnew) := pe_dnewK.weak fun σ H Q q => by
  obtain ⟨ρ, F, s, q⟩ := q
  exact fun p hf => q F _ _ (Same.refl F) (s.pushNew hf ⟨[], upd_same, rfl, List.nodup_nil, .nil⟩)
/-! ### and, or, not, if -/
theorem e_one {op} {ir : Ex} (h : PE X a (tE C Φ W ir)) : PE X (.BoolOp op [a] pos) (tE C Φ W ir) := pe_one h
theorem e_and {ia ib : Ex} (ha : PE X a (tE C Φ W ia)) (hb : PE X (.BoolOp .And (b :: es) pos) (tE C Φ W ib)) : PE X (.BoolOp .And (a :: b :: es) pos) (tE C Φ W (.and ia ib)) := (pe_and ha hb).weak fun σ H Q q => by
  obtain ⟨ρ, F, s, q⟩ := q
  unfold evE at q
  refine ⟨ρ, F, s, q.bind.imp fun p ρ1 F1 H1 e1 s1 k1 v r => ?_⟩
  cases p with
  | bl t =>
    refine ⟨t, r, ?_⟩
    cases t with
    | true => exact ⟨ρ1, F1, s1, k1⟩
    | false => exact k1 F1 H1 (Same.refl F1) s1 _ rfl
  | _ => exact False.elim k1
theorem e_not {ia : Ex} (ha : PE X a (tE C Φ W ia)) : PE X (.UnaryOp .Not a pos) (tE C Φ W (.not ia)) := (pe_not ha).weak fun σ H Q q => by
  obtain ⟨ρ, F, s, q⟩ := q
  unfold evE at q
  refine ⟨ρ, F, s, q.bind.imp fun p ρ1 F1 H1 e1 s1 k1 v r => ?_⟩
  cases p with
  | bl t => exact ⟨t, r, k1 F1 H1 (Same.refl F1) s1 _ rfl⟩
  | _ => exact False.elim k1
/-! ### chains -/
theorem tE_chain {o1 o2 : Op} {ia ib ic : Ex} {σ : L2.St} {H : Hp} {Q : VK} (q : tE C Φ W (.chain o1 o2 ia ib ic) σ H Q) : tChain (R2of C.K o1) (R2of C.K o2) (tE C Φ W ia) (tE C Φ W ib) (tE C Φ W ic) σ H Q := by
  obtain ⟨ρ, F, s, q⟩ := q
  unfold evE at q
  refine ⟨ρ, F, s, q.bind.imp fun p ρ1 F1 H1 e1 s1 k1 x rx => ⟨ρ1, F1, s1, k1.bind.imp fun t ρ2 F2 H2 e2 s2 k2 y ry => ?_⟩⟩
  split at k2
  · rename_i ho
    refine ⟨F2, [p, t], .bl true, s2.le, RepRs.toO ⟨x, _, rfl, Rep.b s2.le (rx.mono e2), y, _, rfl, Rep.b s2.le ry, rfl⟩, ho, fun v H3 hr => ?_⟩
    obtain ⟨F3, e3, s3, r3⟩ := hr.fro s2
    refine ⟨true, r3, ?_⟩
    rw [if_pos rfl]
    have k2 := k2.mono e3
    refine ⟨ρ2, F3, s3, k2.bind.imp fun u ρ4 F4 H4 e4 s4 k4 z rz => ?_⟩
    obtain ⟨w, hw, k4⟩ := k4.of
    refine ⟨F4, [t, u], w, s4.le, RepRs.toO ⟨y, _, rfl, Rep.b s4.le (Rep.mono e4 (Rep.mono e3 ry)), z, _, rfl, Rep.b s4.le rz, rfl⟩, hw, fun v' H5 hr' => ?_⟩
    obtain ⟨F5, e5, s5, r5⟩ := hr'.fro s4
    exact k4 F5 H5 e5 s5 v' r5
  · rename_i ho
    refine ⟨F2, [p, t], .bl false, s2.le, RepRs.toO ⟨x, _, rfl, Rep.b s2.le (rx.mono e2), y, _, rfl, Rep.b s2.le ry, rfl⟩, ho, fun v H3 hr => ?_⟩
    obtain ⟨F3, e3, s3, r3⟩ := hr.fro s2
    refine ⟨false, r3, ?_⟩
    rw [if_neg Bool.false_ne_true]
    exact k2 F3 H3 e3 s3 _ rfl
  · exact False.elim k2
theorem e_chain {op op' : CmpOp} {o1 o2 : Op} {ia ib ic : Ex} (ho : OpR X (compareOp op) (R2of C.K o1)) (ho' : OpR X (compareOp op') (R2of C.K o2)) (hm : lastMarks [op, op'] [b, c] = false) (ha : PE X a (tE C Φ W ia)) (hb : PE X b (tE C Φ W ib)) (hc : PE X c (tE C Φ W ic)) :
    PE X (.Compare a [op, op'] [b, c] pos) (tE C Φ W (.chain o1 o2 ia ib ic)) := (pe_chain ho ho' ha hb hc hm).weak fun _ _ _ q => tE_chain q

/-! ### tests -/
theorem tT_e {ir : Ex} {σ : L2.St} {H : Hp} {Q : Bool → Hp → Prop} (q : tT C Φ W (.e ir) σ H Q) : tE C Φ W ir σ H fun v H' => ∃ k, v = .bl k ∧ Q k H' := by
  obtain ⟨ρ, F, s, q⟩ := q
  unfold evT at q
  refine ⟨ρ, F, s, q.bind.imp fun p ρ1 F1 H1 e1 s1 k1 v r => ?_⟩
  cases p with
  | bl t => exact ⟨t, r, k1 F1 H1 (Same.refl F1) s1⟩
  | _ => exact False.elim k1
theorem t_val {ir : Ex} (h : PE X e (tE C Φ W ir)) (he : ∀ whole, isTrue e X.env whole = (do let v ← whole; standAt e.pos; holding [v] (truthy v)) := by intro _; rfl) : PT X e (tT C Φ W (.e ir)) :=
  (pt_val h he).weak fun _ _ _ q => tT_e q
theorem t_cmp {op : CmpOp} {o : Op} {ia ib : Arg} (ho : OpR X (compareOp op) (R2of C.K o)) (hm : behindInMarks op b = false) (ha : PE X a (tA1 C Φ W ia)) (hb : PE X b (tA1 C Φ W ib)) : PT X (.Compare a [op] [b] pos) (tT C Φ W (.e (.app o [ia, ib]))) :=
  (pt_cmpR ho ha hb hm).weak fun _ _ _ q => tO_2 (tE_app (tT_e q))
theorem t_cmpC {op : CmpOp} {o : Op} {ia : Arg} {v : V} (ho : OpR X (compareOp op) (fun x y H Q => y = v ∧ rOp C.K o [x] H Q)) (hm : behindInMarks op b = false) (ha : PE X a (tA1 C Φ W ia)) (hb : PE X b (tC v)) : PT X (.Compare a [op] [b] pos) (tT C Φ W (.e (.app o [ia]))) :=
  (pt_cmpR ho ha hb hm).weak fun _ _ _ q => (tO_1 (tE_app (tT_e q))).imp fun _ _ k => ⟨rfl, k⟩
theorem t_chain {op op' : CmpOp} {o1 o2 : Op} {ia ib ic : Ex} (ho : OpR X (compareOp op) (R2of C.K o1)) (ho' : OpR X (compareOp op') (R2of C.K o2)) (hm : lastMarks [op, op'] [b, c] = false) (ha : PE X a (tE C Φ W ia)) (hb : PE X b (tE C Φ W ib)) (hc : PE X c (tE C Φ W ic)) :
    PT X (.Compare a [op, op'] [b, c] pos) (tT C Φ W (.e (.chain o1 o2 ia ib ic))) := (pt_chain ho ho' ha hb hc hm).weak fun _ _ _ q => tE_chain (tT_e q)
theorem w_and1 {ia : Tst} (ha : PT X a (tT C Φ W ia)) : PW X (.BoolOp .And [a] pos) (tT C Φ W ia) := pw_and1 ha
theorem w_or1 {ia : Tst} (ha : PT X a (tT C Φ W ia)) : PW X (.BoolOp .Or [a] pos) (tT C Φ W ia) := pw_or1 ha
theorem w_and {ia ib : Tst} (ha : PT X a (tT C Φ W ia)) (hb : PW X (.BoolOp .And (b :: es) pos) (tT C Φ W ib)) : PW X (.BoolOp .And (a :: b :: es) pos) (tT C Φ W (.and ia ib)) := (pw_and ha hb).weak fun σ H Q q => by
  obtain ⟨ρ, F, s, q⟩ := q
  unfold evT at q
  refine ⟨ρ, F, s, q.bind.imp fun t ρ1 F1 H1 e1 s1 k1 => ?_⟩
  cases t with
  | true => exact ⟨ρ1, F1, s1, k1⟩
  | false => exact k1 F1 H1 (Same.refl F1) s1
theorem w_or {ia ib : Tst} (ha : PT X a (tT C Φ W ia)) (hb : PW X (.BoolOp .Or (b :: es) pos) (tT C Φ W ib)) : PW X (.BoolOp .Or (a :: b :: es) pos) (tT C Φ W (.or ia ib)) := (pw_or ha hb).weak fun σ H Q q => by
  obtain ⟨ρ, F, s, q⟩ := q
  unfold evT at q
  refine ⟨ρ, F, s, q.bind.imp fun t ρ1 F1 H1 e1 s1 k1 => ?_⟩
  cases t with
  | false => exact ⟨ρ1, F1, s1, k1⟩
  | true => exact k1 F1 H1 (Same.refl F1) s1
theorem t_not {ia : Tst} (ha : PT X a (tT C Φ W ia)) : PT X (.UnaryOp .Not a pos) (tT C Φ W (.not ia)) := (pt_not ha).weak fun σ H Q q => by
  obtain ⟨ρ, F, s, q⟩ := q
  unfold evT at q
  exact ⟨ρ, F, s, q.bind.imp fun t ρ1 F1 H1 e1 s1 k1 => k1 F1 H1 (Same.refl F1) s1⟩

/-! ### a slice with both ends -/
/-! ### calls -/
theorem call_tL {j : Nat} {irs : List Arg} {σ : L2.St} {H : Hp} {Q : VK} (q : tL' C Φ W (.call j irs) σ H Q) : tCallS (spOf C.K (Φ j)) (WE W) (tAs C Φ W irs) σ H Q := by
  obtain ⟨ρ, F, s, q⟩ := q
  have q : PostL C W σ F ((evAs Φ irs ρ).bind fun avs ρ1 => callE (Φ j) avs ρ1) fun _ _ _ H' v => Q v H' := q
  refine ⟨ρ, F, s, q.bindV.imp fun avs ρ1 F1 H1 e1 s1 k1 vs rs => ?_⟩
  unfold callE at k1
  split at k1
  · rename_i ls hls
    split at k1
    · rename_i hnd
      obtain ⟨fp, sr, io⟩ := call_io s1 rs hls hnd
      refine ⟨F1, ls, fp, sr, ?_⟩
      split at k1
      · rename_i r ls' hg
        split at k1
        · rename_i hl
          try rw [hg]
          exact fun v H' F' sr' => k1 F' H' v sr'.f0 (io r v ls' F' H' sr' hl)
        · exact False.elim k1
      · rename_i cc ls' hg
        split at k1
        · rename_i hl
          try rw [hg]
          intro H' F' sr'
          exact k1 F' H' sr'.f0 (io (.fro .non) .non ls' F' H' (sr'.push rfl) hl).pop
        · exact False.elim k1
      · exact False.elim k1
    · exact False.elim k1
  · exact False.elim k1
theorem l_call {j k : Nat} {f : Addr} {fd : FuncData} {ps : List Str} {irs : List Arg} (o : XO X C) (F : FnOk X.prog X.w X.K X.mg X.base (L2.CX X.prog X.w) k f fd ps (spOf X.K (Φ j))) (hr : Room k X.A) (hg : Gl X x) (hm : X.mg x = some (.ref f)) (hk : PySem.W.keepIn X.K (.ref f) = true)
    (hb : Binds X.K fd ps []) (tk : Takes X W) (ha : PA X (e :: es) (tAs C Φ W irs)) (hdb : (x == ("__debug__" : Str)) = false := by decide) (he : starEach (e :: es) X.env = (false, eval e X.env) :: starEach es X.env := by rfl) (hpl : (backTo pos (starEach es X.env)).any (·.1) = false := by rfl) :
    PE X (.Call (.Name x p) (e :: es) [] pos) (tL' C Φ W (.call j irs)) := (pe_callS F hr hg hm hk hb (passAt tk) ha hdb he hpl).weak fun _ _ _ q => by rw [← o.K]; exact call_tL q
theorem e_call {j : Nat} {irs : List Arg} (h : PE X e (tL' C Φ W (.call j irs))) : PE X e (tE C Φ W (.call j irs)) := e_ofL h fun ρ => by
  show evE Φ (.call j irs) ρ = ER.bind ((evAs Φ irs ρ).bind fun avs ρ1 => callE (Φ j) avs ρ1) (fun l ρ => ER.of l.pv ρ)
  rw [ER.bind_assoc]
  unfold evE
  rfl
end

/-! ### what a loop walks -/
/-- J yields xs, all frozen (or in new pairs) -/
def Items (K : PySem.W.Frag) (F : Hp) (J : It) (xs : List PV) : Prop := ∀ i H, Same F H → (∀ p, xs[i]? = some p → J.go i H) ∧ (xs.length ≤ i → J.stop i H) ∧ ∀ x H' p, xs[i]? = some p → J.yld i H x H' →
  (H' = H ∧ Rep K F p x) ∨ ∃ a ys l, H a = none ∧ x = .ref a ∧ H' = upd H a (.tup ys) ∧ p = .tup l ∧ Reps K F l ys
def tSrc (C : Cb) (Φ : Nat → List LV → CR) (W : WX) (s : Src) : TI := fun σ H R => ∃ ρ F, SR C F ρ σ H ∧ Post C W σ F (evSrc Φ s ρ) fun xs _ F1 H1 => ∀ J, Items C.K F1 J xs → R J H1
theorem Reps.at {K : PySem.W.Frag} {F : Hp} : ∀ {ps : List PV} {xs : List V} {i : Nat} {p : PV}, Reps K F ps xs → ps[i]? = some p → ∃ x, xs[i]? = some x ∧ Rep K F p x := fun {ps} => by
  induction ps with
  | nil => intro xs i p r h; simp at h
  | cons q ps ih =>
    intro xs i p r h
    obtain ⟨v, xs', rfl, r1, r2⟩ := r
    cases i with
    | zero => simp at h; subst h; exact ⟨_, rfl, r1⟩
    | succ i =>
      obtain ⟨x, h1, h2⟩ := ih r2 (by simpa using h)
      exact ⟨x, by simpa using h1, h2⟩
section
variable {X : Cx} {C : Cb} {Φ : Nat → List LV → CR} {W : WX} {a b e tg : Expr} {pos p : Pos}
theorem items_l {K : PySem.W.Frag} {F : Hp} {l : List PV} {xs : List V} {a : Addr} (h : SqE K F a xs) (r : Reps K F l xs) : Items K F (Itl K a) l := fun i H e => by
  have q : SqL K H a xs := (Same.sqe e h).sql
  refine ⟨fun p hp => ?_, fun hl => ⟨xs, q, by rw [← r.length]; exact hl⟩, fun x H' p hp y => .inl ?_⟩
  · obtain ⟨x, h1, _⟩ := r.at hp
    exact ⟨xs, x, q, h1⟩
  · obtain ⟨x', h1, h2⟩ := r.at hp
    obtain ⟨e1, y⟩ := y
    have := y xs q
    rw [h1] at this
    cases this
    exact ⟨e1, h2⟩
theorem items_t {K : PySem.W.Frag} {F : Hp} {l : List PV} {xs : List V} {a : Addr} (h : SqT K F a xs) (r : Reps K F l xs) : Items K F (Itt K a) l := fun i H e => by
  have q : SqT K H a xs := Same.sqt e h
  refine ⟨fun p hp => ?_, fun hl => ⟨xs, q, by rw [← r.length]; exact hl⟩, fun x H' p hp y => .inl ?_⟩
  · obtain ⟨x, h1, _⟩ := r.at hp
    exact ⟨xs, x, q, h1⟩
  · obtain ⟨x', h1, h2⟩ := r.at hp
    obtain ⟨e1, y⟩ := y
    have := y xs q
    rw [h1] at this
    cases this
    exact ⟨e1, h2⟩
/-- a list or a tuple -/
def iSeq (K : PySem.W.Frag) (tl : TE) : TI := fun σ H R => tl σ H fun x H1 => ∃ a, x = .ref a ∧ (((∃ xs, SqL K H1 a xs) ∧ R (Itl K a) H1) ∨ ((∃ xs, SqT K H1 a xs) ∧ R (Itt K a) H1))
theorem pi_seq {l : Expr} {tl : TE} (hl : PE X l tl) : PI X tg l (iSeq X.K tl) := by
  refine ⟨fun pins s σ H R I h => ?_⟩
  refine thn (hl.run pins s σ H _ I h) fun v s1 ⟨x, H1, I1, r1, q1⟩ => ?_
  obtain ⟨a, e, ⟨⟨xs, hq⟩, q⟩ | ⟨⟨xs, hq⟩, q⟩⟩ := q1
  · subst e
    cases r1
    obtain ⟨its, rv, p, hz⟩ := I1.list hq
    refine wpAny_pyIter_list p.isList ?_
    refine ⟨s1.heap.objs.size, [s1.heap.objs.size], _, _, H1, rfl, I1.kept (t' := s1.toks) fun b o e => Heap.get?_push_of_some _ e, turn_list a _, ⟨_, Heap.get?_push_size _ rfl, rfl, rfl⟩, fun b hb => ?_, q⟩
    have e : b = s1.heap.objs.size := by simpa using hb
    subst e
    exact I1.fpOk (Nat.le_refl _) (I1.hok.fresh (Nat.le_refl _))
  · subst e
    cases r1
    obtain ⟨its, rv, p, hz⟩ := I1.tuple hq
    refine wpAny_pyIter_tuple (show s1.heap.IsTuple a its.toArray from p) ?_
    refine ⟨s1.heap.objs.size, [s1.heap.objs.size], _, _, H1, rfl, I1.kept (t' := s1.toks) fun b o e => Heap.get?_push_of_some _ e, turn_tuple a _, ⟨_, Heap.get?_push_size _ rfl, rfl, rfl⟩, fun b hb => ?_, q⟩
    have e : b = s1.heap.objs.size := by simpa using hb
    subst e
    exact I1.fpOk (Nat.le_refl _) (I1.hok.fresh (Nat.le_refl _))
theorem s_seq (o : XO X C) {ir : Ex} (h : PE X e (tE C Φ W ir)) : PI X tg e (tSrc C Φ W (.seq ir)) := (pi_seq h).weak fun σ H R q => by
  obtain ⟨ρ, F, s, q⟩ := q
  unfold evSrc at q
  refine ⟨ρ, F, s, q.bind.imp fun p ρ1 F1 H1 e1 s1 k1 v r => ?_⟩
  obtain ⟨xs, hx, k1⟩ := k1.of
  rw [seqOf_dn] at hx
  replace r := r.dn
  generalize p.dn = p at hx r
  cases p with
  | lst l =>
    cases hx
    obtain ⟨a, ys, rfl, hr, rr⟩ := r
    refine ⟨a, rfl, .inl ⟨⟨ys, ?_⟩, ?_⟩⟩
    · exact (by rw [← o.K]; exact (Same.sqe s1.le hr).sql)
    · rw [← o.K]; exact k1 F1 H1 (Same.refl F1) s1 _ (items_l hr rr)
  | tup l =>
    cases hx
    obtain ⟨a, ys, rfl, hr, rr⟩ := r
    refine ⟨a, rfl, .inr ⟨⟨ys, ?_⟩, ?_⟩⟩
    · rw [← o.K]; exact Same.sqt s1.le hr
    · rw [← o.K]; exact k1 F1 H1 (Same.refl F1) s1 _ (items_t hr rr)
  | xt l =>
    cases hx
    obtain ⟨a, ys, ob, rfl, hr, _, rr⟩ := r
    have hr : SqT C.K F1 a ys := .inl (.inr ⟨ob, hr⟩)
    refine ⟨a, rfl, .inr ⟨⟨ys, ?_⟩, ?_⟩⟩
    · rw [← o.K]; exact Same.sqt s1.le hr
    · rw [← o.K]; exact k1 F1 H1 (Same.refl F1) s1 _ (items_t hr rr)
  | gt l =>
    cases hx
    obtain ⟨a, ys, rfl, hr, rr⟩ := r
    refine ⟨a, rfl, .inr ⟨⟨ys, ?_⟩, ?_⟩⟩
    · rw [← o.K]; exact Same.sqt s1.le hr
    · rw [← o.K]; exact k1 F1 H1 (Same.refl F1) s1 _ (items_t hr rr)
  | _ => cases hx
theorem items_r {K : PySem.W.Frag} {F : Hp} {a b : Int} : Items K F (Itr a (b - a).toNat) (rngP a b) := fun i H e => by
  have hlen : (rngP a b).length = (b - a).toNat := by simp [rngP]
  refine ⟨fun p hp => ?_, fun hl => by rw [hlen] at hl; exact hl, fun x H' p hp y => .inl ?_⟩
  · have := (List.getElem?_eq_some_iff.mp hp).1
    rw [hlen] at this
    exact this
  · obtain ⟨e1, rfl⟩ := y
    have h1 := (List.getElem?_eq_some_iff.mp hp).1
    rw [hlen] at h1
    have : p = .int (a + (i : Nat)) := by
      have h2 := (List.getElem?_eq_some_iff.mp hp).2
      rw [← h2]
      simp [rngP]
    subst this
    exact ⟨e1, rfl⟩
theorem s_rng1 (hg : Gl X "range") (hm : X.mg "range" = none) {ia : Ex} (ha : PE X a (tE C Φ W ia)) (hs : starEach [a] X.env = (false, eval a X.env) :: starEach [] X.env := by rfl) : PI X tg (.Call (.Name "range" p) [a] [] pos) (tSrc C Φ W (.rng1 ia)) :=
  (pi_range1 hg hm (pa_cons ha pa_nil hs) hs).weak fun σ H R q => by
    obtain ⟨ρ, F, s, q⟩ := q
    unfold evSrc at q
    refine ⟨ρ, F, s, q.bind.imp fun p ρ1 F1 H1 e1 s1 k1 v r => ?_⟩
    cases p with
    | int j =>
      dsimp only at k1
      split at k1
      · rename_i hj
        refine ⟨j, by rw [show v = .int j from r], hj.1, hj.2, ?_⟩
        have := items_r (K := C.K) (F := F1) (a := 0) (b := j)
        rw [Int.sub_zero] at this
        exact k1 F1 H1 (Same.refl F1) s1 _ this
      · exact False.elim k1
    | _ => exact False.elim k1
theorem s_rng2 (hg : Gl X "range") (hm : X.mg "range" = none) {ia ib : Ex} (ha : PE X a (tE C Φ W ia)) (hb : PE X b (tE C Φ W ib)) (hs : starEach [a, b] X.env = (false, eval a X.env) :: starEach [b] X.env := by rfl) (hs2 : starEach [b] X.env = (false, eval b X.env) :: starEach [] X.env := by rfl) :
    PI X tg (.Call (.Name "range" p) [a, b] [] pos) (tSrc C Φ W (.rng2 ia ib)) :=
  (pi_range2 hg hm (pa_cons ha (pa_cons hb pa_nil hs2) hs) (hs.trans (by rw [hs2]; rfl)) hs2).weak fun σ H R q => by
    obtain ⟨ρ, F, s, q⟩ := q
    unfold evSrc at q
    refine ⟨ρ, F, s, q.bind.imp fun p ρ1 F1 H1 e1 s1 k1 v r => ⟨ρ1, F1, s1, k1.bind.imp fun t ρ2 F2 H2 e2 s2 k2 w r2 => ?_⟩⟩
    cases p with
    | int i =>
      cases t with
      | int j =>
        dsimp only at k2
        split at k2
        · rename_i hj
          refine ⟨i, j, by rw [show v = .int i from r, show w = .int j from r2], ⟨hj.1.1, hj.1.2, hj.2.1, hj.2.2⟩, ?_⟩
          exact k2 F2 H2 (Same.refl F2) s2 _ items_r
        · exact False.elim k2
      | _ => exact False.elim k2
    | _ => exact False.elim k2
theorem enumF_get : ∀ {l : List PV} {k i : Nat} {p : PV}, (enumF k l)[i]? = some p → ∃ q, l[i]? = some q ∧ p = .tup [.int ((k + i : Nat) : Int), q]
  | [], k, i, p, h => by simp [enumF] at h
  | q :: l, k, 0, p, h => by simp [enumF] at h; exact ⟨q, rfl, h.symm⟩
  | q :: l, k, i + 1, p, h => by
    obtain ⟨r, h1, h2⟩ := enumF_get (l := l) (k := k + 1) (i := i) (p := p) (by simpa [enumF] using h)
    refine ⟨r, by simpa using h1, ?_⟩
    rw [h2]
    congr 3
    omega
theorem enumF_len : ∀ (l : List PV) (k : Nat), (enumF k l).length = l.length
  | [], k => rfl
  | q :: l, k => by simp [enumF, enumF_len l]
/-- the tuple at a as it stands at each turn, each item in a new pair -/
def IteT (K : PySem.W.Frag) (a : Addr) : It :=
  ⟨fun i H => ∃ (xs : List V) (x : V), SqT K H a xs ∧ xs[i]? = some x, fun i H v H' => ∃ T x, v = .ref T ∧ H T = none ∧ H' = upd H T (.tup [.int (i : Nat), x]) ∧ ∀ xs, SqT K H a xs → xs[i]? = some x, fun i H => ∃ xs : List V, SqT K H a xs ∧ xs.length ≤ i⟩
theorem turn_enumT {P : Program} {w : World} {K : PySem.W.Frag} {elts : List Expr} {kk : Nat} {tpos : Pos} (a e it : Addr) :
    Turn P w K (.Tuple elts kk tpos) (IteT K a) [e, it] e (fun i h => (∃ old, IsEnum h e it ((i : Nat) : Int) old) ∧ h.IsTupleIter it a i ∧ e ≠ it ∧ a ≠ it ∧ e ≠ a) where
  mem := by simp
  obj := fun i h st b hb => by
    obtain ⟨⟨old, he⟩, ⟨o, ho, hc, hd⟩, _⟩ := st
    have e' : b = e ∨ b = it := by simpa using hb
    rcases e' with z | z
    · rw [z]; exact ⟨_, he, fun v q => nomatch q⟩
    · rw [z]; exact ⟨o, ho, fun v q => by rw [hd] at q; cases q⟩
  keep := fun i h h' st k => let ⟨⟨old, he⟩, hi, hne⟩ := st; ⟨⟨old, k e (by simp) _ he⟩, hi.at fun o q => k it (by simp) o q, hne⟩
  item := by
    intro X hP hw hK hc i pins s σ H E I hf st hg
    subst hP hw hK
    obtain ⟨⟨old, he⟩, hit, hne, hai, hea⟩ := st
    obtain ⟨xs, x, hq, hx⟩ := hg
    obtain ⟨its, rv, p, hz⟩ := I.tuple hq
    obtain ⟨u, hu, ru⟩ := rv.get hx
    have hel : e < s.heap.objs.size := Heap.lt_size he
    have hil : it < s.heap.objs.size := by obtain ⟨_, q, _⟩ := hit; exact Heap.lt_size q
    have D := Draws.tuple (prog := X.prog) (w := X.w) (A := X.A.in1) (I.ok.hd hc) it a hai its.toArray
    have hlt : i < its.toArray.size := by
      have := (List.getElem?_eq_some_iff.mp hu).1
      simpa using this
    refine wpAny_pyNext_enum_itemD D he ⟨hit, (show s.heap.IsTuple a its.toArray from p)⟩ hlt hne (by simp; exact ⟨hne, hea⟩) fun u' h' tk hP ho hit' hT hsz hk => ?_
    have eu : u' = u := by
      have : its[i]? = some u' := by simpa using hP
      rw [hu] at this
      cases this
      rfl
    subst eu
    refine ⟨_, rfl, wpAny_letOwnedTupleGo_enum (s := { s with heap := h', toks := tk + 1 }) ho fun h'' he' sb => ?_⟩
    have hT2 : h''.get? s.heap.objs.size = some { cls := .type "tuple", data := .seq #[.int i tk, u'] } := (sb.2 _ (Nat.ne_of_gt hel)).trans hT
    have new : ObjOk X.prog X.w (upd H s.heap.objs.size (.tup [.int (i : Nat), x])) h'' s.heap.objs.size (.tup [.int (i : Nat), x]) :=
      ⟨by show 2 ≤ sizeLine; decide, [.int i tk, u'], .cons ⟨_, rfl⟩ (.cons ru .nil), ⟨_, hT2, rfl, _, rfl⟩⟩
    have I1 : Inv X pins σ (upd H s.heap.objs.size (.tup [.int (i : Nat), x])) { s with heap := h'', toks := tk + 1 } :=
      I.turnedNew (ch := [e, it]) (fun b ob hb q => (sb.2 b (fun z => hb (by simp [z]))).trans (hk b ob (fun z => hb (by simp [z])) (fun z => hb (by simp [z])) q)) hf (Nat.le_refl _) new
    refine ⟨.ref s.heap.objs.size, _, I1, rfl, ⟨_, x, rfl, I.hok.fresh (Nat.le_refl _), rfl, fun ys hy => by rw [I.tuple_inj hy hq]; exact hx⟩, ⟨⟨u', ?_⟩, hit'.1.at fun o q => (sb.2 it (Ne.symm hne)).trans q, hne, hai, hea⟩, fun b hb => ?_⟩
    · have e1 : ((i + 1 : Nat) : Int) = (i : Int) + 1 := by omega
      rw [e1]; exact he'
    · have hb' : b < s.heap.objs.size := by
        have e' : b = e ∨ b = it := by simpa using hb
        rcases e' with z | z
        · rw [z]; exact hel
        · rw [z]; exact hil
      rw [upd_ne (Nat.ne_of_lt hb')]
      exact (hf b hb).1
  done := by
    intro X hP hw hK hc i pins s σ H E I hf st hg
    subst hP hw hK
    obtain ⟨⟨old, he⟩, hit, hne, hai, hea⟩ := st
    obtain ⟨xs, hq, hx⟩ := hg
    obtain ⟨its, rv, p, hz⟩ := I.tuple hq
    obtain ⟨f0, f1, f2, f3, f4, f5⟩ := hf it (by simp)
    have hl := rv.length
    exact pyNext_enumT_end (I.ok.hd hc) he hit (show s.heap.IsTuple a its.toArray from p) (by simp; omega) fun h' eb => ⟨rfl, I.turned (t' := s.toks) (fun b o hb q => eb b o hb q) f0 f1 f3 f4 f5⟩
  self := fun A i s Q E st h => let ⟨⟨_, he⟩, _⟩ := st; wpAny_pyIter_enum he h
def iEnumA (K : PySem.W.Frag) (ta : TA) : TI := fun σ H R => ta σ H fun vs H1 => ∃ a xs, vs = [.ref a] ∧ ((SqL K H1 a xs ∧ R (Ite K a) H1) ∨ (SqT K H1 a xs ∧ R (IteT K a) H1))
theorem pi_enumA {X : Cx} {e : Expr} {ta : TA} {p pos tpos : Pos} {elts : List Expr} {kk : Nat} (hg : Gl X "enumerate") (hm : X.mg "enumerate" = none) (ha : PA X [e] ta) (hs : starEach [e] X.env = [(false, eval e X.env)] := by rfl) :
    PI X (.Tuple elts kk tpos) (.Call (.Name "enumerate" p) [e] [] pos) (iEnumA X.K ta) := by
  refine ⟨fun pins s σ H R I h => ?_⟩
  refine Call_ (ld_blt I hg hm boot_enumerate (PyProof.Rows.callWith_type1 (thn (ha.run pos pins s σ H _ I h) fun us s1 ⟨vs, H1, I1, r1, q1⟩ => ?_) hs rfl))
  obtain ⟨a, xs, ex, q1⟩ := q1
  subst ex
  cases r1 with
  | cons r rr =>
    cases rr
    cases r
    rcases q1 with ⟨hq, q⟩ | ⟨hq, q⟩
    · obtain ⟨its, rv, p', hz⟩ := I1.list hq
      refine call_enumerate_list p'.isList fun h' he hit hsz hk => wpAny_pyIter_enum he ?_
      have I2 : Inv X pins σ H1 { s1 with heap := h' } := I1.kept (t' := s1.toks) hk
      refine ⟨s1.heap.objs.size + 1, [s1.heap.objs.size + 1, s1.heap.objs.size], _, _, H1, rfl, I2, turn_enum a (s1.heap.objs.size + 1) s1.heap.objs.size, ⟨⟨.none, he⟩, hit, Nat.succ_ne_self _⟩, fun b hb => ?_, q⟩
      have e' : b = s1.heap.objs.size + 1 ∨ b = s1.heap.objs.size := by simpa using hb
      have hle : s1.heap.objs.size ≤ b := by
        rcases e' with z | z
        · rw [z]; exact Nat.le_add_right _ _
        · rw [z]; exact Nat.le_refl _
      exact I1.fpOk hle (I1.hok.fresh hle)
    · obtain ⟨its, rv, p', hz⟩ := I1.tuple hq
      have ha : a < s1.heap.objs.size := by obtain ⟨_, q, _⟩ := (show s1.heap.IsTuple a its.toArray from p'); exact Heap.lt_size q
      refine call_enumT (show s1.heap.IsTuple a its.toArray from p') fun h' he hit hsz hk => wpAny_pyIter_enum he ?_
      have I2 : Inv X pins σ H1 { s1 with heap := h' } := I1.kept (t' := s1.toks) hk
      refine ⟨s1.heap.objs.size + 1, [s1.heap.objs.size + 1, s1.heap.objs.size], _, _, H1, rfl, I2, turn_enumT a (s1.heap.objs.size + 1) s1.heap.objs.size, ⟨⟨.none, he⟩, hit, Nat.succ_ne_self _, Nat.ne_of_lt ha, Nat.ne_of_gt (Nat.lt_succ_of_lt ha)⟩, fun b hb => ?_, q⟩
      have e' : b = s1.heap.objs.size + 1 ∨ b = s1.heap.objs.size := by simpa using hb
      have hle : s1.heap.objs.size ≤ b := by
        rcases e' with z | z
        · rw [z]; exact Nat.le_add_right _ _
        · rw [z]; exact Nat.le_refl _
      exact I1.fpOk hle (I1.hok.fresh hle)
theorem s_enum (o : XO X C) {elts : List Expr} {kk : Nat} {tpos : Pos} (hg : Gl X "enumerate") (hm : X.mg "enumerate" = none) {ia : Ex} (ha : PE X a (tE C Φ W ia)) (hs : starEach [a] X.env = (false, eval a X.env) :: starEach [] X.env := by rfl) :
    PI X (.Tuple elts kk tpos) (.Call (.Name "enumerate" p) [a] [] pos) (tSrc C Φ W (.enum ia)) := (pi_enumA hg hm (pa_cons ha pa_nil hs) hs).weak fun σ H R q => by
  obtain ⟨ρ, F, s, q⟩ := q
  unfold evSrc at q
  refine ⟨ρ, F, s, q.bind.imp fun p ρ1 F1 H1 e1 s1 k1 v r => ?_⟩
  unfold enumS at k1
  cases p with
  | lst l =>
    obtain ⟨a, ys, rfl, hr, rr⟩ := r
    refine ⟨a, ys, rfl, .inl ⟨(by rw [← o.K]; exact (Same.sqe s1.le hr).sql), ?_⟩⟩
    rw [← o.K]
    refine k1 F1 H1 (Same.refl F1) s1 _ fun i H e => ?_
    have q : SqL C.K H a ys := (Same.sqe e hr).sql
    refine ⟨fun p hp => ?_, fun hl => ⟨ys, q, by rw [← rr.length]; rw [enumP, enumF_len] at hl; exact hl⟩, fun x H' p hp y => .inr ?_⟩
    · obtain ⟨t, h1, _⟩ := enumF_get hp
      obtain ⟨x, h2, _⟩ := rr.at h1
      exact ⟨ys, x, q, h2⟩
    · obtain ⟨t, h1, rfl⟩ := enumF_get hp
      obtain ⟨x', h2, h3⟩ := rr.at h1
      obtain ⟨T, x1, rfl, hn, rfl, hy⟩ := y
      have := hy ys q
      rw [h2] at this
      cases this
      exact ⟨T, _, _, hn, rfl, rfl, rfl, .cons (by simp [Rep]) (.cons h3 .nil)⟩
  | tup l =>
    obtain ⟨a, ys, rfl, hr, rr⟩ := r
    have hr : SqT C.K F1 a ys := .inl (.inl hr)
    refine ⟨a, ys, rfl, .inr ⟨(by rw [← o.K]; exact Same.sqt s1.le hr), ?_⟩⟩
    rw [← o.K]
    refine k1 F1 H1 (Same.refl F1) s1 _ fun i H e => ?_
    have q : SqT C.K H a ys := Same.sqt e hr
    refine ⟨fun p hp => ?_, fun hl => ⟨ys, q, by rw [← rr.length]; rw [enumP, enumF_len] at hl; exact hl⟩, fun x H' p hp y => .inr ?_⟩
    · obtain ⟨t, h1, _⟩ := enumF_get hp
      obtain ⟨x, h2, _⟩ := rr.at h1
      exact ⟨ys, x, q, h2⟩
    · obtain ⟨t, h1, rfl⟩ := enumF_get hp
      obtain ⟨x', h2, h3⟩ := rr.at h1
      obtain ⟨T, x1, rfl, hn, rfl, hy⟩ := y
      have := hy ys q
      rw [h2] at this
      cases this
      exact ⟨T, _, _, hn, rfl, rfl, rfl, .cons (by simp [Rep]) (.cons h3 .nil)⟩
  | xt l =>
    have r : RepA C.K F1 (.tup l) v := r.dn
    obtain ⟨a, ys, rfl, hr, rr⟩ := r
    refine ⟨a, ys, rfl, .inr ⟨(by rw [← o.K]; exact Same.sqt s1.le hr), ?_⟩⟩
    rw [← o.K]
    refine k1 F1 H1 (Same.refl F1) s1 _ fun i H e => ?_
    have q : SqT C.K H a ys := Same.sqt e hr
    refine ⟨fun p hp => ?_, fun hl => ⟨ys, q, by rw [← rr.length]; rw [enumP, enumF_len] at hl; exact hl⟩, fun x H' p hp y => .inr ?_⟩
    · obtain ⟨t, h1, _⟩ := enumF_get hp
      obtain ⟨x, h2, _⟩ := rr.at h1
      exact ⟨ys, x, q, h2⟩
    · obtain ⟨t, h1, rfl⟩ := enumF_get hp
      obtain ⟨x', h2, h3⟩ := rr.at h1
      obtain ⟨T, x1, rfl, hn, rfl, hy⟩ := y
      have := hy ys q
      rw [h2] at this
      cases this
      exact ⟨T, _, _, hn, rfl, rfl, rfl, .cons (by simp [Rep]) (.cons h3 .nil)⟩
  | _ => exact False.elim k1
end
end Br
set_option maxHeartbeats 1000000
/-! BrE4: targets, comprehensions. -/
namespace Br
open PySem PySem.Spec PyProof.Rows L2

/-! ### targets -/
mutual
def Tg.ix : Tg → List Nat
  | .one i => [i]
  | .at _ _ => []
  | .atV _ _ => []
  | .tup ts => Tg.ixs ts
def Tg.ixs : List Tg → List Nat
  | [] => []
  | t :: ts => t.ix ++ Tg.ixs ts
end
/-- only these slots differ -/
def Only (ix : List Nat) (σ σ' : L2.St) : Prop := σ'.length = σ.length ∧ ∀ i, i ∉ ix → σ'[i]? = σ[i]?
theorem Only.refl {ix : List Nat} {σ : L2.St} : Only ix σ σ := ⟨rfl, fun _ _ => rfl⟩
theorem Only.set {i : Nat} {σ : L2.St} {x : Option V} : Only [i] σ (σ.set i x) := ⟨by simp, fun j hj => by rw [List.getElem?_set_ne (by intro e; apply hj; simp [e])]⟩
theorem Only.trans {ix jx : List Nat} {σ σ' σ'' : L2.St} (a : Only ix σ σ') (b : Only jx σ' σ'') : Only (ix ++ jx) σ σ'' := ⟨b.1.trans a.1, fun i hi => by
  rw [b.2 i fun h => hi (List.mem_append_right _ h), a.2 i fun h => hi (List.mem_append_left _ h)]⟩
def tG (C : Cb) (t : Tg) : TG := fun v σ H Q => ∃ ρ F p ρ', SR C F ρ σ H ∧ Rep C.K F p v ∧ t.bind p ρ = some ρ' ∧ ∀ σ' H', Only t.ix σ σ' → SR C F ρ' σ' H' → Q σ' H'
def tGs (C : Cb) (ts : List Tg) : TGs := fun vs σ H Q => ∃ ρ F ps ρ', SR C F ρ σ H ∧ Reps C.K F ps vs ∧ Tg.binds ts ps ρ = some ρ' ∧ ∀ σ' H', Only (Tg.ixs ts) σ σ' → SR C F ρ' σ' H' → Q σ' H'
theorem _root_.L2.PG.weak {X : Cx} {e : Expr} {t t' : TG} (h : PG X e t) (i : ∀ v σ H Q, t' v σ H Q → t v σ H Q) : PG X e t' := ⟨fun pins s σ H v u Q I r q => h.run pins s σ H v u Q I r (i _ _ _ _ q)⟩
theorem _root_.L2.PGs.weak {X : Cx} {e : List Expr} {t t' : TGs} (h : PGs X e t) (i : ∀ v σ H Q, t' v σ H Q → t v σ H Q) : PGs X e t' := ⟨fun pins s σ H v u Q I r q => h.run pins s σ H v u Q I r (i _ _ _ _ q)⟩
section
variable {C : Cb} {X : Cx} {e : Expr} {es : List Expr} {pos : Pos} {x : Str}
theorem g_name {i : Nat} (o : XO X C) (hi : X.N[i]? = some x) (hx : Loc X.env.scope x) (hf : X.fn x = true ∨ X.env.scope.names.lookup x = some .local := by first | exact .inl rfl | exact .inr rfl | assumption) : PG X (.Name x pos) (tG C (.one i)) :=
  (pg_name o.nd hi hx hf).weak fun v σ H Q q => by
    obtain ⟨ρ, F, p, ρ', s, r, hb, k⟩ := q
    cases hb
    exact k _ _ Only.set (s.setFro r i)
theorem gs_nil : PGs X [] (tGs C []) := pgs_nil.weak fun vs σ H Q q => by
  obtain ⟨ρ, F, ps, ρ', s, r, hb, k⟩ := q
  cases ps with
  | nil => cases hb; exact ⟨r, k _ _ Only.refl s⟩
  | cons p ps => simp [Tg.binds] at hb
theorem gs_cons {t : Tg} {ts : List Tg} (h1 : PG X e (tG C t)) (h2 : PGs X es (tGs C ts)) (hs : (assignEach (e :: es) X.env).map (·.2) = assign e X.env :: (assignEach es X.env).map (·.2) := by rfl) : PGs X (e :: es) (tGs C (t :: ts)) :=
  (pgs_cons h1 h2 hs).weak fun vs σ H Q q => by
    obtain ⟨ρ, F, ps, ρ', s, r, hb, k⟩ := q
    cases ps with
    | nil => simp [Tg.binds] at hb
    | cons p ps =>
      obtain ⟨v, xs', rfl, r1, r2⟩ := r
      unfold Tg.binds at hb
      split at hb
      · rename_i ρ1 hb1
        exact ⟨v, xs', rfl, ρ, F, p, ρ1, s, r1, hb1, fun σ1 H1 o1 s1 => ⟨ρ1, F, ps, ρ', s1, r2, hb, fun σ2 H2 o2 s2 => k σ2 H2 (o1.trans o2) s2⟩⟩
      · cases hb
theorem g_tup {k : Nat} {ts : List Tg} (o : XC X C) (h : PGs X es (tGs C ts)) (hn : (assignEach es X.env).length = ts.length := by rfl) (hst : (assignEach es X.env).findIdx? (·.1) = none := by rfl) : PG X (.Tuple es k pos) (tG C (.tup ts)) := by
  refine ⟨fun pins s σ H v u Q I r q => ?_⟩
  obtain ⟨ρ, F, p, ρ', s1, rp, hb, k⟩ := q
  cases p with
  | tup l =>
    unfold Tg.bind at hb
    dsimp only at hb
    split at hb
    · rename_i hl
      obtain ⟨a, xs, rfl, hs, hr⟩ := rp
      refine (pg_tup o.calm h hn hst).run pins s σ H _ u Q I r ⟨a, xs, rfl, by rw [← o.K]; exact .inl (.inl (s1.le _ _ hs)), by rw [← hr.length]; exact hl, ρ, F, l, ρ', s1, hr, hb, fun σ' H' ho s' => k σ' H' ho s'⟩
    · cases hb
  | lst l =>
    unfold Tg.bind at hb
    dsimp only at hb
    split at hb
    · rename_i hl
      obtain ⟨a, xs, rfl, hs, hr⟩ := rp
      refine (pg_unl o.calm h hn hst).run pins s σ H _ u Q I r ⟨a, xs, rfl, by rw [← o.K]; exact (Same.sqe s1.le hs).sql, by rw [← hr.length]; exact hl, ρ, F, l, ρ', s1, hr, hb, fun σ' H' ho s' => k σ' H' ho s'⟩
    · cases hb
  | xt l =>
    unfold Tg.bind at hb
    dsimp only at hb
    split at hb
    · rename_i hl
      obtain ⟨a, xs, ob, rfl, hs, _, hr⟩ := rp
      have hs : SqT C.K F a xs := .inl (.inr ⟨ob, hs⟩)
      refine (pg_tup o.calm h hn hst).run pins s σ H _ u Q I r ⟨a, xs, rfl, by rw [← o.K]; exact Same.sqt s1.le hs, by rw [← hr.length]; exact hl, ρ, F, l, ρ', s1, hr, hb, fun σ' H' ho s' => k σ' H' ho s'⟩
    · cases hb
  | _ => simp [Tg.bind] at hb
end

/-! ### a frame's part -/
section
variable {C : Cb} {F H : Hp} {ρ : Env} {σ : L2.St} {l : LV} {v : V}
/-- the top slot set aside: whatever keeps the rest keeps it -/
theorem SR.enterK (s : SR C F (some l :: ρ) (some v :: σ) H) : ∃ A fp0 : List Addr, (RepL C.K F H l v fp0 ∧ ∀ a ∈ fp0, a ∉ A) ∧ SR ⟨C.K, H, F, A⟩ F ρ σ H ∧ ∀ F' ρ' σ' H', SR ⟨C.K, H, F, A⟩ F' ρ' σ' H' → SR C F' (some l :: ρ') (some v :: σ') H' := by
  obtain ⟨fp, h1, h2⟩ := s.own
  let sel : Nat → List Addr := fun j => match ρ[j]? with
    | some (some _) => fp (j + 1)
    | _ => []
  have selE : ∀ j m, ρ[j]? = some (some m) → sel j = fp (j + 1) := fun j m e => by
    show (match ρ[j]? with
      | some (some _) => fp (j + 1)
      | _ => []) = _
    rw [e]
  have memA : ∀ a, a ∈ (List.range ρ.length).flatMap sel → ∃ j m, ρ[j]? = some (some m) ∧ a ∈ fp (j + 1) := fun a ha => by
    obtain ⟨j, _, hj⟩ := List.mem_flatMap.mp ha
    have hj : a ∈ (match ρ[j]? with
      | some (some _) => fp (j + 1)
      | _ => []) := hj
    split at hj
    · rename_i m e
      exact ⟨j, m, e, hj⟩
    · cases hj
  have inA : ∀ a j m, ρ[j]? = some (some m) → a ∈ fp (j + 1) → a ∈ (List.range ρ.length).flatMap sel := fun a j m e ha => List.mem_flatMap.mpr ⟨j, List.mem_range.mpr (List.getElem?_eq_some_iff.mp e).1, by rw [selE j m e]; exact ha⟩
  have AO : ∀ a, a ∈ (List.range ρ.length).flatMap sel → C.O a := fun a ha => by
    obtain ⟨j, m, e, hj⟩ := memA a ha
    obtain ⟨_, _, _, _, q⟩ := h1 (j + 1) m (by simpa using e)
    exact (q a hj).2
  have A0 : ∀ a ∈ fp 0, a ∉ (List.range ρ.length).flatMap sel := fun a ha hb => by
    obtain ⟨j, m, e, hj⟩ := memA a hb
    exact h2 0 (j + 1) l m (by omega) rfl (by simpa using e) a ha hj
  obtain ⟨v0, hv0, r0, n0, q0⟩ := h1 0 l rfl
  have ev : v0 = v := by simpa using hv0.symm
  subst ev
  refine ⟨(List.range ρ.length).flatMap sel, fp 0, ⟨r0, A0⟩, ⟨s.le, Same.refl F, fun a o h _ => h, fun a h => .inl h, by simpa using s.len, fun j => fp (j + 1), fun j m e => ?_, fun i j m m' hij e e' => ?_⟩, fun F' ρ' σ' H' s' => ?_⟩
  · obtain ⟨w, hw, rl, nd, q⟩ := h1 (j + 1) m (by simpa using e)
    exact ⟨w, by simpa using hw, rl, nd, fun a ha => ⟨(q a ha).1, .inl (inA a j m e ha)⟩⟩
  · exact h2 (i + 1) (j + 1) m m' (by omega) (by simpa using e) (by simpa using e')
  · obtain ⟨fq, k1, k2⟩ := s'.own
    have keepH : ∀ a o, H a = some o → a ∉ (List.range ρ.length).flatMap sel → H' a = some o := s'.keep
    have foF : ∀ a, F' a ≠ none → F a ≠ none ∨ (a ∈ (List.range ρ.length).flatMap sel ∨ H a = none ∨ ∃ xs, H a = some (.tup xs)) := s'.fo
    have newO : ∀ a, (a ∈ (List.range ρ.length).flatMap sel ∨ H a = none) → C.O a := fun a h => by
      rcases h with h | h
      · exact AO a h
      · exact s.fresh h
    have there0 : ∀ a ∈ fp 0, ∃ o, H a = some o := fun a ha => r0.there a ha
    refine ⟨s'.le, s.f0.trans s'.f0, fun a o e ha => ?_, fun a e => ?_, by simpa using s'.len, fun n => match n with
      | 0 => fp 0
      | j + 1 => fq j, fun n m e => ?_, fun n n' m m' hnn e e' => ?_⟩
    · refine keepH a o (s.keep a o e ha) fun hf => ?_
      rcases AO a hf with z | z | ⟨ys, z⟩
      · exact ha z
      · rw [e] at z; cases z
      · obtain ⟨j, m, em, hj⟩ := memA a hf
        obtain ⟨_, _, rl, _⟩ := h1 (j + 1) m (by simpa using em)
        exact rl.noTup a hj ys (s.keep a _ z ha)
    · rcases foF a e with z | z
      · exact s.fo a z
      · rcases z with z | z | ⟨ys, z⟩
        · exact .inr (newO a (.inl z))
        · exact .inr (newO a (.inr z))
        · exact .inr (s.oTup z)
    · cases n with
      | zero =>
        have e1 : l = m := by simpa using e
        subst e1
        refine ⟨v0, rfl, r0.frame s'.f0 fun a ha => ?_, n0, fun a ha => ⟨?_, (q0 a ha).2⟩⟩
        · obtain ⟨o, ho⟩ := there0 a ha
          rw [keepH a o ho (A0 a ha), ho]
        · cases z : F' a with
          | none => rfl
          | some o =>
            rcases foF a (by rw [z]; exact fun w => nomatch w) with w | w | w | ⟨ys, w⟩
            · exact absurd (q0 a ha).1 w
            · exact absurd w (A0 a ha)
            · obtain ⟨o', ho⟩ := there0 a ha
              rw [ho] at w; cases w
            · exact absurd w (r0.noTup a ha ys)
      | succ j =>
        obtain ⟨w, hw, rl, nd, q⟩ := k1 j m (by simpa using e)
        exact ⟨w, by simpa using hw, rl, nd, fun a ha => ⟨(q a ha).1, newO a (s'.oOwn rl ha (q a ha).2)⟩⟩
    · have ap : ∀ j m, ρ'[j]? = some (some m) → ∀ a ∈ fq j, a ∉ fp 0 := fun j m e a ha hb => by
        obtain ⟨_, _, rq, _, q⟩ := k1 j m e
        rcases s'.oOwn rq ha (q a ha).2 with w | w
        · exact A0 a hb w
        · obtain ⟨o', ho⟩ := there0 a hb
          have w : H a = none := w
          rw [ho] at w; cases w
      cases n with
      | zero =>
        cases n' with
        | zero => exact absurd rfl hnn
        | succ j => exact fun a ha hb => ap j m' (by simpa using e') a hb ha
      | succ i =>
        cases n' with
        | zero => exact fun a ha hb => ap i m (by simpa using e) a ha hb
        | succ j => exact k2 i j m m' (by omega) (by simpa using e) (by simpa using e')
theorem SR.enter (s : SR C F (some l :: ρ) (some v :: σ) H) : ∃ A : List Addr, SR ⟨C.K, H, F, A⟩ F ρ σ H ∧ ∀ F' ρ' σ' H', SR ⟨C.K, H, F, A⟩ F' ρ' σ' H' → SR C F' (some l :: ρ') (some v :: σ') H' := by
  obtain ⟨A, _, _, h1, h2⟩ := s.enterK
  exact ⟨A, h1, h2⟩
theorem wipe_at (σ : L2.St) : ∀ (vs : List Nat) (i : Nat), i ∉ vs → (wipe σ vs)[i]? = σ[i]?
  | [], i, _ => rfl
  | v :: vs, i, h => by
    unfold wipe
    rw [List.getElem?_set_ne (by intro e; apply h; simp [e]), wipe_at σ vs i fun z => h (List.mem_cons_of_mem _ z)]
theorem wipe_in (σ : L2.St) : ∀ (vs : List Nat) (i : Nat), i ∈ vs → i < σ.length → (wipe σ vs)[i]? = some none
  | [], i, h, _ => by cases h
  | v :: vs, i, h, hl => by
    unfold wipe
    by_cases e : v = i
    · subst e
      rw [List.getElem?_set_self (by rw [wipe_length]; exact hl)]
    · rw [List.getElem?_set_ne e]
      exact wipe_in σ vs i (by rcases List.mem_cons.mp h with z | z; exact absurd z.symm e; exact z) hl
theorem wipe_eq {σ σ' : L2.St} {vs : List Nat} (h : Only vs σ σ') : wipe σ' vs = wipe σ vs := by
  apply List.ext_getElem?
  intro i
  by_cases hi : i ∈ vs
  · by_cases hl : i < σ.length
    · rw [wipe_in σ vs i hi hl, wipe_in σ' vs i hi (by rw [h.1]; exact hl)]
    · have h1 := h.1
      rw [List.getElem?_eq_none (l := wipe σ vs) (by rw [wipe_length]; omega), List.getElem?_eq_none (l := wipe σ' vs) (by rw [wipe_length]; omega)]
  · rw [wipe_at σ vs i hi, wipe_at σ' vs i hi, h.2 i hi]
theorem wipe_only (σ : L2.St) (vs : List Nat) : Only vs σ (wipe σ vs) := ⟨wipe_length σ vs, fun i hi => wipe_at σ vs i hi⟩
theorem SR.wipes (s : SR C F ρ σ H) : ∀ vs : List Nat, SR C F (wipeE ρ vs) (wipe σ vs) H
  | [] => s
  | v :: vs => (SR.wipes s vs).clear v none
theorem backE_len (ρ ρ' : Env) : ∀ vs : List Nat, (backE ρ ρ' vs).length = ρ'.length
  | [] => rfl
  | v :: vs => by
    unfold backE
    split <;> rw [List.length_set, backE_len ρ ρ' vs]
theorem backE_get {ρ ρ' : Env} : ∀ {vs : List Nat} {i : Nat} {l : LV}, (backE ρ ρ' vs)[i]? = some (some l) → (i ∉ vs ∧ ρ'[i]? = some (some l)) ∨ ∃ p, l = .fro p ∧ ρ[i]? = some (some (.fro p))
  | [], i, l, h => .inl ⟨by simp, h⟩
  | v :: vs, i, l, h => by
    unfold backE at h
    split at h
    · rename_i p e
      rcases set_get h with ⟨rfl, z, _⟩ | ⟨z, q⟩
      · cases z
        exact .inr ⟨p, rfl, e⟩
      · rcases backE_get q with ⟨q1, q2⟩ | q
        · exact .inl ⟨fun hm => by
            rcases List.mem_cons.mp hm with w | w
            · exact z w.symm
            · exact q1 w, q2⟩
        · exact .inr q
    · rcases set_get h with ⟨rfl, z, _⟩ | ⟨z, q⟩
      · cases z
      · rcases backE_get q with ⟨q1, q2⟩ | q
        · exact .inl ⟨fun hm => by
            rcases List.mem_cons.mp hm with w | w
            · exact z w.symm
            · exact q1 w, q2⟩
        · exact .inr q
theorem SR.backs {ρ1 : Env} {vs : List Nat} (s : SR C F ρ (wipe σ vs) H) (hr : ∀ (i : Nat) (p : PV), ρ1[i]? = some (some (LV.fro p)) → ∃ w, σ[i]? = some (some w) ∧ Rep C.K F p w) : SR C F (backE ρ1 ρ vs) σ H := by
  obtain ⟨fp, h1, h2⟩ := s.own
  classical
  have key : ∀ i l, (backE ρ1 ρ vs)[i]? = some (some l) → (i ∉ vs ∧ ρ[i]? = some (some l)) ∨ (∃ p, l = .fro p ∧ ρ1[i]? = some (some (.fro p))) := fun i l h => backE_get h
  have froFp : ∀ i p, ρ[i]? = some (some (.fro p)) → fp i = [] := fun i p e => by
    obtain ⟨_, _, rl, _⟩ := h1 i _ e
    exact rl.2
  refine ⟨s.le, s.f0, s.keep, s.fo, by rw [backE_len, s.len, wipe_length], fun i => if i ∉ vs ∧ ∃ l, ρ[i]? = some (some l) ∧ (backE ρ1 ρ vs)[i]? = some (some l) then fp i else [], fun i l e => ?_, fun i j l m hij e e' a ha hb => ?_⟩
  · rcases key i l e with ⟨hi, e2⟩ | ⟨p, rfl, e2⟩
    · dsimp only
      rw [if_pos ⟨hi, l, e2, e⟩]
      obtain ⟨w, hw, rl, nd, q⟩ := h1 i l e2
      exact ⟨w, by rw [← wipe_at σ vs i hi]; exact hw, rl, nd, q⟩
    · obtain ⟨w, hw, rw'⟩ := hr i p e2
      have e0 : (if i ∉ vs ∧ ∃ l, ρ[i]? = some (some l) ∧ (backE ρ1 ρ vs)[i]? = some (some l) then fp i else []) = [] := by
        split
        · rename_i hc
          obtain ⟨_, l, c1, c2⟩ := hc
          rw [e] at c2
          cases c2
          exact froFp i p c1
        · rfl
      dsimp only
      rw [e0]
      exact ⟨w, hw, ⟨rw', rfl⟩, List.nodup_nil, fun a h => absurd h (by simp)⟩
  · dsimp only at ha hb
    split at ha
    · rename_i c
      split at hb
      · rename_i c'
        obtain ⟨_, l1, g1, _⟩ := c
        obtain ⟨_, l2, g2, _⟩ := c'
        exact h2 i j l1 l2 hij g1 g2 a ha hb
      · cases hb
    · cases ha
end

/-! ### comprehensions -/
abbrev W0 : WX := fun _ _ _ _ => False
def tTs (C : Cb) (Φ : Nat → List LV → CR) (W : WX) (c : List Tst) : TT := fun σ H Q => ∃ ρ F, SR C F ρ σ H ∧ Post C W σ F (evTs Φ c ρ) fun b _ _ H' => Q b H'
theorem _root_.L2.PTs.weak {X : Cx} {e : List Expr} {t t' : TT} (h : PTs X e t) (i : ∀ σ H Q, t' σ H Q → t σ H Q) : PTs X e t' := ⟨fun pins s σ H Q I q => h.run pins s σ H Q I (i _ _ _ q)⟩
theorem ts_nil {C : Cb} {Φ : Nat → List LV → CR} {W : WX} {X : Cx} : PTs X [] (tTs C Φ W []) := pts_nil.weak fun σ H Q q => by
  obtain ⟨ρ, F, s, q⟩ := q
  unfold evTs at q
  exact q F H (Same.refl F) s
theorem ts_one {C : Cb} {Φ : Nat → List LV → CR} {W : WX} {X : Cx} {c : Expr} {ic : Tst} (h : PT X c (tT C Φ W ic)) : PTs X [c] (tTs C Φ W [ic]) := (pts_one h).weak fun σ H Q q => by
  obtain ⟨ρ, F, s, q⟩ := q
  unfold evTs at q
  exact ⟨ρ, F, s, q⟩
/-- J yields xs wherever the state stands -/
def ItemsC (C : Cb) (F : Hp) (J : It) (xs : List PV) : Prop := ∀ i F' ρ σ H, Same F F' → SR C F' ρ σ H → (∀ p, xs[i]? = some p → J.go i H) ∧ (xs.length ≤ i → J.stop i H) ∧ ∀ x H' p, xs[i]? = some p → J.yld i H x H' →
  (H' = H ∧ Rep C.K F' p x) ∨ (∃ a ys l, H a = none ∧ x = .ref a ∧ H' = upd H a (.tup ys) ∧ p = .tup l ∧ Reps C.K F' l ys) ∨ ∃ a ys l, H' = H ∧ x = .ref a ∧ H a = some (.tup ys) ∧ p = .tup l ∧ Reps C.K F' l ys
/-- readings of a block: of any frame -/
def bE (K : PySem.W.Frag) (Φ : Nat → List LV → CR) (e : Ex) : TE := fun σ H Q => ∃ C : Cb, C.K = K ∧ tE C Φ W0 e σ H Q
def bTs (K : PySem.W.Frag) (Φ : Nat → List LV → CR) (e : List Tst) : TT := fun σ H Q => ∃ C : Cb, C.K = K ∧ tTs C Φ W0 e σ H Q
def bG (K : PySem.W.Frag) (t : Tg) : TG := fun v σ H Q => ∃ C : Cb, C.K = K ∧ tG C t v σ H Q
section
variable {C : Cb} {Φ : Nat → List LV → CR} {W : WX} {X : Cx}
theorem XO.blk (o : XO X C) {C' : Cb} (h : C'.K = C.K) {s : Shared} {H : Hp} {scope : Scope} {env : PySem.Env} {fp : List Addr} : XO (X.blk s H scope env fp) C' := ⟨h.trans o.K, o.nd, o.un⟩
theorem XC.blk (o : XC X C) {C' : Cb} (h : C'.K = C.K) {s : Shared} {H : Hp} {scope : Scope} {env : PySem.Env} {fp : List Addr} : XC (X.blk s H scope env fp) C' := ⟨⟨h.trans o.K, o.nd, o.un⟩, o.calm⟩
theorem takes0 {X : Cx} : Takes X W0 := fun u s' h => by
  obtain ⟨_, _, _, _, _, _, _, _, _, _, _, _, _, _, _, _, h⟩ := h
  exact h.elim
theorem bE.to {e : Expr} {ir : Ex} {K : PySem.W.Frag} (h : ∀ C' : Cb, C'.K = K → PE X e (tE C' Φ W0 ir)) : PE X e (bE K Φ ir) := ⟨fun pins s σ H Q I ⟨C', hC, q⟩ => (h C' hC).run pins s σ H Q I q⟩
theorem bTs.to {e : List Expr} {ir : List Tst} {K : PySem.W.Frag} (h : ∀ C' : Cb, C'.K = K → PTs X e (tTs C' Φ W0 ir)) : PTs X e (bTs K Φ ir) := ⟨fun pins s σ H Q I ⟨C', hC, q⟩ => (h C' hC).run pins s σ H Q I q⟩
theorem bG.to {e : Expr} {t : Tg} {K : PySem.W.Frag} (h : ∀ C' : Cb, C'.K = K → PG X e (tG C' t)) : PG X e (bG K t) := ⟨fun pins s σ H v u Q I r ⟨C', hC, q⟩ => (h C' hC).run pins s σ H v u Q I r q⟩
/-- one turn's end -/
def compF (Φ : Nat → List LV → CR) (t : Tg) (vs : List Nat) (c : List Tst) (e : Ex) : PV → Env → ER (Option PV) := fun x ρ2 => match t.bind x ρ2 with
        | some ρ3 => (evTs Φ c ρ3).bind fun b ρ4 => if b = true then (evE Φ e ρ4).bind fun y ρ5 => .ok (some y) (wipeE ρ5 vs) else .ok none (wipeE ρ4 vs)
        | none => .st
theorem Items.mono {K : PySem.W.Frag} {F F' : Hp} {J : It} {xs : List PV} (h : Items K F J xs) (e : Same F F') : Items K F' J xs := fun i H e' => by
  obtain ⟨h1, h2, h3⟩ := h i H (e.trans e')
  refine ⟨h1, h2, fun x H' p hp y => ?_⟩
  rcases h3 x H' p hp y with ⟨q1, q2⟩ | ⟨a, ys, l, q1, q2, q3, q4, q5⟩
  · exact .inl ⟨q1, Rep.mono e q2⟩
  · exact .inr ⟨a, ys, l, q1, q2, q3, q4, q5.mono e⟩
/-- an item has come -/
theorem SR.item {F H H' : Hp} {ρ : Env} {σ : L2.St} {x : V} {p : PV} (s : SR C F ρ σ H) (h : (H' = H ∧ Rep C.K F p x) ∨ (∃ a ys l, H a = none ∧ x = .ref a ∧ H' = upd H a (.tup ys) ∧ p = .tup l ∧ Reps C.K F l ys) ∨ ∃ a ys l, H' = H ∧ x = .ref a ∧ H a = some (.tup ys) ∧ p = .tup l ∧ Reps C.K F l ys) : ∃ F', Same F F' ∧ SR C F' ρ σ H' ∧ Rep C.K F' p x := by
  rcases h with ⟨rfl, r⟩ | ⟨a, ys, l, n, rfl, rfl, rfl, r⟩ | ⟨a, ys, l, rfl, rfl, hb, rfl, r⟩
  rotate_left 2
  · obtain ⟨F', e, s', hF⟩ := s.freezeT hb
    exact ⟨F', e, s', a, ys, rfl, hF, r.mono e⟩
  · exact ⟨F, Same.refl F, s, r⟩
  · have e : Same F (upd F a (.tup ys)) := same_updF (s.fnone n)
    exact ⟨_, e, s.alloc n _, a, ys, rfl, upd_same, r.mono e⟩
theorem drop_cons {α : Type} {l : List α} {i : Nat} (h : i < l.length) : ∃ x, l[i]? = some x ∧ l.drop i = x :: l.drop (i + 1) := ⟨l[i], by simp [h], List.drop_eq_getElem_cons h⟩
theorem comp_core {t : Tg} {vs : List Nat} {ic : List Tst} {ie : Ex} (hv : ∀ i ∈ t.ix, i ∈ vs) {σ : L2.St} {Q : VK} {xs : List PV} {ρ1 : Env} {F1 H1 : Hp} (s1 : SR C F1 ρ1 σ H1) (k1 : PostL C W σ F1 ((if xs.length ≤ LIM then (compL (compF Φ t vs ic ie) xs (wipeE ρ1 vs)).bind fun ys ρ6 => ER.ok (.lst ys) (backE ρ1 ρ6 vs) else .st).bind fun p ρ1 => .ok (.own p) ρ1) fun _ _ _ H' v => Q v H') {J : It} (hJ : ItemsC C F1 J xs) {D : Addr} (hD : H1 D = none) :
    ∃ W : Nat → Nat → Hp → Prop, (∃ m, W 0 m (upd H1 D (.lst []))) ∧ ∀ i m H, W i m H →
      (J.stop i H ∧ Q (.ref D) H) ∨ (J.go i H ∧ ∃ Nx : Hp → Prop, (∀ H', Nx H' → ∃ m', m' < m ∧ W (i + 1) m' H') ∧ ∀ x H', J.yld i H x H' → bG C.K t x (wipe σ vs) H' fun σ2 H2 => wipe σ2 vs = wipe σ vs ∧ bTs C.K Φ ic σ2 H2 fun b H3 =>
        if b = true then bE C.K Φ ie σ2 H3 fun y H4 => ∃ acc, H4 D = some (.lst acc) ∧ acc.length < sizeLine ∧ Nx (upd H4 D (.lst (acc ++ [y]))) else Nx H3) := by
  by_cases hlim : xs.length ≤ LIM
  case neg => rw [if_neg hlim] at k1; exact False.elim k1
  rw [if_pos hlim, ER.bind_assoc] at k1
  have hline := lim_line hlim
  let Inv' : Nat → Hp → Prop := fun i H => i ≤ xs.length ∧ ∃ ρ F acc, acc.length ≤ i ∧ Same F1 F ∧ SR C F (some (.own (.lst acc)) :: ρ) (some (.ref D) :: wipe σ vs) H ∧ match compL (compF Φ t vs ic ie) (xs.drop i) ρ with
    | .ok ys ρ6 => ∀ F' H', Same F F' → SR C F' (some (.own (.lst (acc ++ ys))) :: ρ6) (some (.ref D) :: wipe σ vs) H' → Q (.ref D) H'
    | _ => False
  refine ⟨fun i m H => m = xs.length - i ∧ Inv' i H, ⟨xs.length, by simp, Nat.zero_le _, wipeE ρ1 vs, F1, [], Nat.le_refl _, Same.refl F1, ?_, ?_⟩, ?_⟩
  · have s2 := s1.pushNew hD (p := .lst []) (o := .lst []) ⟨[], upd_same, .nil⟩
    obtain ⟨A, s3, ex⟩ := s2.enter
    exact ex _ _ _ _ (s3.wipes vs)
  · rw [List.drop_zero]
    cases hc : compL (compF Φ t vs ic ie) xs (wipeE ρ1 vs) with
    | ok ys ρ6 =>
      rw [hc] at k1
      intro F' H' e' s'
      refine k1 F' H' (.ref D) e' ?_
      rw [List.nil_append] at s'
      obtain ⟨A, s3, ex⟩ := s'.enter
      refine ex _ _ _ _ (SR.backs (vs := vs) s3 fun i p hp => ?_)
      obtain ⟨w, hw, rw'⟩ := s1.fro hp
      exact ⟨w, hw, Rep.mono e' rw'⟩
    | ex c ρ6 =>
      rw [hc] at k1
      exact absurd hc (by
        intro hc
        have : ∀ (l : List PV) (ρ : Env) (c : Str) (ρ' : Env), compL (compF Φ t vs ic ie) l ρ ≠ .ex c ρ' := by
          intro l
          induction l with
          | nil => intro ρ c ρ' h; cases h
          | cons x l ih =>
            intro ρ c ρ' h
            unfold compL at h
            split at h
            · split at h <;> cases h
            · exact ih _ _ _ h
            · cases h
        exact this _ _ _ _ hc)
    | st =>
      rw [hc] at k1
      exact k1
  · rintro i m H2 ⟨rfl, hi, ρ2, F2, acc, hacc, e2, s2, k2⟩
    obtain ⟨J1, J2, J3⟩ := hJ i F2 _ _ H2 e2 s2
    by_cases hlt : i < xs.length
    · obtain ⟨p, hp, hd⟩ := drop_cons hlt
      rw [hd] at k2
      refine .inr ⟨J1 p hp, fun H' => Inv' (i + 1) H', fun H' h => ⟨xs.length - (i + 1), by omega, rfl, h⟩, fun x H3 hy => ?_⟩
      have it := J3 x H3 p hp hy
      obtain ⟨F3, e3, s3, r3⟩ := s2.item it
      obtain ⟨A, s4, ex⟩ := s3.enter
      unfold compL at k2
      have fin : ∀ (acc' : List PV) ρ5 F5 σ5 H5, acc'.length ≤ i + 1 → Same F3 F5 → Only vs (wipe σ vs) σ5 → SR C F5 (some (.own (.lst acc')) :: ρ5) (some (.ref D) :: σ5) H5 → (match compL (compF Φ t vs ic ie) (xs.drop (i + 1)) (wipeE ρ5 vs) with
          | .ok ys ρ6 => ∀ F' H', Same F5 F' → SR C F' (some (.own (.lst (acc' ++ ys))) :: ρ6) (some (.ref D) :: wipe σ vs) H' → Q (.ref D) H'
          | _ => False) → Inv' (i + 1) H5 := fun acc' ρ5 F5 σ5 H5 hl e5 o5 s5 k5 => by
        refine ⟨hlt, wipeE ρ5 vs, F5, acc', hl, (e2.trans e3).trans e5, ?_, k5⟩
        obtain ⟨A5, s6, ex6⟩ := s5.enter
        have e6 : wipe σ5 vs = wipe σ vs := by
          rw [wipe_eq o5, wipe_eq (wipe_only σ vs)]
        have s7 := s6.wipes vs
        rw [e6] at s7
        exact ex6 _ _ _ _ s7
      have kk : ∃ ρ3, t.bind p ρ2 = some ρ3 ∧ Post (⟨C.K, H3, F3, A⟩ : Cb) W0 (wipe σ vs) F3 (ER.ok () ρ3) (fun _ _ _ _ => True) := by
        cases hb : t.bind p ρ2 with
        | none =>
          have : compF Φ t vs ic ie p ρ2 = .st := by unfold compF; rw [hb]
          rw [this] at k2
          exact False.elim k2
        | some ρ3 => exact ⟨ρ3, rfl, fun _ _ _ _ => trivial⟩
      obtain ⟨ρ3, hb, _⟩ := kk
      have hf : compF Φ t vs ic ie p ρ2 = (evTs Φ ic ρ3).bind fun b ρ4 => if b = true then (evE Φ ie ρ4).bind fun y ρ5 => .ok (some y) (wipeE ρ5 vs) else .ok none (wipeE ρ4 vs) := by
        unfold compF
        rw [hb]
      rw [hf] at k2
      refine ⟨⟨C.K, H3, F3, A⟩, rfl, ρ2, F3, p, ρ3, s4, r3, hb, fun σ5 H5 o5 s5 => ?_⟩
      have ov : Only vs (wipe σ vs) σ5 := ⟨o5.1, fun j hj => o5.2 j fun z => hj (hv j z)⟩
      refine ⟨by rw [wipe_eq ov, wipe_eq (wipe_only σ vs)]; , ⟨C.K, H3, F3, A⟩, rfl, ρ3, F3, s5, ?_⟩
      cases hT : evTs Φ ic ρ3 with
      | st => rw [hT] at k2; exact False.elim k2
      | ex c ρ4 => rw [hT] at k2; exact False.elim k2
      | ok b ρ4 =>
        rw [hT] at k2
        intro F5 H5 e5 s6
        cases b with
        | false =>
          rw [if_neg Bool.false_ne_true]
          have k2 : (match compL (compF Φ t vs ic ie) (xs.drop (i + 1)) (wipeE ρ4 vs) with
            | .ok ys ρ6 => ∀ F' H', Same F2 F' → SR C F' (some (.own (.lst (acc ++ ys))) :: ρ6) (some (.ref D) :: wipe σ vs) H' → Q (.ref D) H'
            | _ => False) := k2
          refine fin acc ρ4 F5 σ5 H5 (by omega) e5 ov (ex _ _ _ _ s6) ?_
          cases hc : compL (compF Φ t vs ic ie) (xs.drop (i + 1)) (wipeE ρ4 vs) with
          | ok ys ρ6 =>
            rw [hc] at k2
            exact fun F' H' e' s' => k2 F' H' ((e3.trans e5).trans e') s'
          | ex c ρ6 => rw [hc] at k2; exact k2
          | st => rw [hc] at k2; exact k2
        | true =>
          rw [if_pos rfl]
          refine ⟨⟨C.K, H3, F3, A⟩, rfl, ρ4, F5, s6, ?_⟩
          have k2 : (match (match (evE Φ ie ρ4).bind fun y ρ5 => ER.ok (some y) (wipeE ρ5 vs) with
              | .ok (some y) ρ1 => (match compL (compF Φ t vs ic ie) (xs.drop (i + 1)) ρ1 with
                | .ok ys ρ2 => ER.ok (y :: ys) ρ2
                | _ => ER.st)
              | .ok none ρ1 => compL (compF Φ t vs ic ie) (xs.drop (i + 1)) ρ1
              | _ => ER.st) with
            | .ok ys ρ6 => ∀ F' H', Same F2 F' → SR C F' (some (.own (.lst (acc ++ ys))) :: ρ6) (some (.ref D) :: wipe σ vs) H' → Q (.ref D) H'
            | _ => False) := k2
          cases hE : evE Φ ie ρ4 with
          | st => rw [hE] at k2; exact False.elim k2
          | ex c ρ5 => rw [hE] at k2; exact False.elim k2
          | ok y ρ5 =>
            rw [hE] at k2
            intro F6 H6 e6 s7 v rv
            have s8 := ex _ _ _ _ s7
            obtain ⟨a, ha, own, _⟩ := s8.ownAt (i := 0) (p := .lst acc) rfl
            have ha : D = a := by simpa using ha
            subst ha
            obtain ⟨accV, hA, rA⟩ := own
            refine ⟨accV, hA, by rw [← rA.length]; omega, ?_⟩
            have ow : OwnAt C.K F6 (upd H6 D (.lst (accV ++ [v]))) D (.lst (acc ++ [y])) := ⟨accV ++ [v], upd_same, rA.append (.cons rv .nil)⟩
            have s9 := s8.write (i := 0) (p := .lst acc) rfl rfl ow
            refine fin (acc ++ [y]) ρ5 F6 σ5 _ (by simp; omega) (e5.trans e6) ov s9 ?_
            have k2 : (match (match compL (compF Φ t vs ic ie) (xs.drop (i + 1)) (wipeE ρ5 vs) with
                | .ok ys ρ2 => ER.ok (y :: ys) ρ2
                | _ => ER.st) with
              | .ok ys ρ6 => ∀ F' H', Same F2 F' → SR C F' (some (.own (.lst (acc ++ ys))) :: ρ6) (some (.ref D) :: wipe σ vs) H' → Q (.ref D) H'
              | _ => False) := k2
            cases hc : compL (compF Φ t vs ic ie) (xs.drop (i + 1)) (wipeE ρ5 vs) with
            | ok ys ρ6 =>
              rw [hc] at k2
              intro F' H' e' s'
              rw [List.append_assoc] at s'
              exact k2 F' H' (((e3.trans e5).trans e6).trans e') s'
            | ex c ρ6 => rw [hc] at k2; exact k2
            | st => rw [hc] at k2; exact k2
    · have e : i = xs.length := by omega
      subst e
      rw [List.drop_eq_nil_of_le (Nat.le_refl _)] at k2
      refine .inl ⟨J2 (Nat.le_refl _), ?_⟩
      have k2 : ∀ F' H', Same F2 F' → SR C F' (some (.own (.lst (acc ++ []))) :: ρ2) (some (.ref D) :: wipe σ vs) H' → Q (.ref D) H' := k2
      rw [List.append_nil] at k2
      exact k2 F2 H2 (Same.refl F2) s2
theorem Items.toC {F : Hp} {J : It} {xs : List PV} (hJ : Items C.K F J xs) : ItemsC C F J xs := fun i F' ρ σ H e s => by
  obtain ⟨a, b, c⟩ := (hJ.mono e) i H s.le
  exact ⟨a, b, fun x H' p hp y => (c x H' p hp y).imp id .inl⟩
theorem comp_lc {is : Src} {t : Tg} {vs : List Nat} {ic : List Tst} {ie : Ex} (hv : ∀ i ∈ t.ix, i ∈ vs) {σ : L2.St} {H : Hp} {Q : VK} (q : tL' C Φ W (.comp is t vs ic ie) σ H Q) : tLc (tSrc C Φ W is) (bG C.K t) (bTs C.K Φ ic) (bE C.K Φ ie) vs σ H Q := by
  obtain ⟨ρ, F, s, q⟩ := q
  have q : PostL C W σ F ((evE Φ (.comp is t vs ic ie) ρ).bind fun p ρ1 => .ok (.own p) ρ1) fun _ _ _ H' v => Q v H' := q
  unfold evE at q
  rw [ER.bind_assoc] at q
  refine ⟨ρ, F, s, q.bindV.imp fun xs ρ1 F1 H1 e1 s1 k1 J hJ D hD => comp_core hv s1 k1 hJ.toC hD⟩
theorem l_comp {elt tg iter : Expr} {ifs : List Expr} {scope : Scope} {own : List (Str × Nat)} {pos : Pos} {is : Src} {t : Tg} {ic : List Tst} {ie : Ex} (o : XC X C) (hi : PI X tg iter (tSrc C Φ W is)) (ok : BlkOk X.N X.env.scope scope own) (hv : ∀ i ∈ t.ix, i ∈ own.map (·.2))
    (hg : ∀ (C' : Cb) (hC : C'.K = C.K) (s : Shared) (H : Hp) (D : Addr) (cl : List (Str × Addr)) (fp : List Addr), PG (X.blk s H scope (compEnvC scope cl D X.env) fp) tg (tG C' t))
    (ht : ∀ (C' : Cb) (hC : C'.K = C.K) (s : Shared) (H : Hp) (D : Addr) (cl : List (Str × Addr)) (fp : List Addr), PTs (X.blk s H scope (compEnvC scope cl D X.env) fp) ifs (tTs C' Φ W0 ic))
    (he : ∀ (C' : Cb) (hC : C'.K = C.K) (s : Shared) (H : Hp) (D : Addr) (cl : List (Str × Addr)) (fp : List Addr), PE (X.blk s H scope (compEnvC scope cl D X.env) fp) elt (tE C' Φ W0 ie)) (hs : ∀ x, foldedSetIterable iter X.env x = pure x := by intro _; rfl) :
    PE X (.ListComp elt [⟨tg, iter, ifs, 0⟩] scope pos) (tL' C Φ W (.comp is t (own.map (·.2)) ic ie)) :=
  (pe_lc o.calm o.nd hi ok (fun s H D cl fp => bG.to fun C' hC => hg C' hC s H D cl fp) (fun s H D cl fp => bTs.to fun C' hC => ht C' hC s H D cl fp) (fun s H D cl fp => bE.to fun C' hC => he C' hC s H D cl fp) hs).weak fun _ _ _ q => comp_lc hv q
theorem e_comp {e : Expr} {is : Src} {t : Tg} {vs : List Nat} {ic : List Tst} {ie : Ex} (h : PE X e (tL' C Φ W (.comp is t vs ic ie))) : PE X e (tE C Φ W (.comp is t vs ic ie)) := e_ofL h fun ρ => by
  show evE Φ (.comp is t vs ic ie) ρ = ER.bind ((evE Φ (.comp is t vs ic ie) ρ).bind fun p ρ1 => ER.ok (LV.own p) ρ1) (fun l ρ => ER.of l.pv ρ)
  rw [ER.bind_assoc]
  cases evE Φ (.comp is t vs ic ie) ρ <;> rfl
end
end Br
set_option maxHeartbeats 1000000
/-! BrE5: statements. -/
namespace Br
open PySem PySem.Spec PyProof.Rows L2

/-- these slots are as they were -/
def Kp (pr : List Nat) (σ σ' : L2.St) : Prop := ∀ i ∈ pr, σ'[i]? = σ[i]?
theorem Kp.refl {pr : List Nat} {σ : L2.St} : Kp pr σ σ := fun _ _ => rfl
theorem Kp.trans {pr : List Nat} {σ σ' σ'' : L2.St} (a : Kp pr σ σ') (b : Kp pr σ' σ'') : Kp pr σ σ'' := fun i hi => (b i hi).trans (a i hi)
theorem Kp.only {pr ix : List Nat} {σ σ' : L2.St} (h : Only ix σ σ') (d : ∀ i ∈ ix, i ∉ pr) : Kp pr σ σ' := fun i hi => h.2 i fun z => d i z hi
theorem Kp.set {pr : List Nat} {σ : L2.St} {i : Nat} {x : Option V} (d : i ∉ pr) : Kp pr σ (σ.set i x) := Kp.only Only.set fun j hj => by simp at hj; subst hj; exact d

def SPost (C : Cb) (W : WX) (pr : List Nat) (D : Ends) (σ : L2.St) (F : Hp) (r : SO) : Prop := match r with
  | .nx ρ => ∀ F' σ' H', Same F F' → Kp pr σ σ' → SR C F' ρ σ' H' → D.nx σ' H'
  | .bk ρ => ∀ F' σ' H', Same F F' → Kp pr σ σ' → SR C F' ρ σ' H' → D.bk σ' H'
  | .ct ρ => ∀ F' σ' H', Same F F' → Kp pr σ σ' → SR C F' ρ σ' H' → D.ct σ' H'
  | .rt l ρ => ∀ F' σ' H' v, Same F F' → Kp pr σ σ' → SR C F' (some l :: ρ) (some v :: σ') H' → D.rt v H'
  | .ex c ρ => ∀ F' σ' H', Same F F' → Kp pr σ σ' → SR C F' ρ σ' H' → W (.ref (He.ga C.K c)) none σ' H'
  | .st => False
section
variable {C : Cb} {W : WX} {pr : List Nat} {D : Ends} {σ σ1 : L2.St} {F F1 H : Hp} {ρ : Env} {α : Type}
theorem SPost.mono {r : SO} (h : SPost C W pr D σ F r) (e : Same F F1) (k : Kp pr σ σ1) : SPost C W pr D σ1 F1 r := by
  cases r with
  | nx ρ => exact fun F' σ' H' e' k' s => h F' σ' H' (e.trans e') (k.trans k') s
  | bk ρ => exact fun F' σ' H' e' k' s => h F' σ' H' (e.trans e') (k.trans k') s
  | ct ρ => exact fun F' σ' H' e' k' s => h F' σ' H' (e.trans e') (k.trans k') s
  | rt l ρ => exact fun F' σ' H' v e' k' s => h F' σ' H' v (e.trans e') (k.trans k') s
  | ex c ρ => exact fun F' σ' H' e' k' s => h F' σ' H' (e.trans e') (k.trans k') s
  | st => exact h
theorem SPost.so {r : ER α} {f : α → Env → SO} (h : SPost C W pr D σ F (r.so f)) : Post C W σ F r fun a ρ1 F1 _ => SPost C W pr D σ F1 (f a ρ1) := by
  cases r with
  | ok a ρ => exact fun F' H' e' s => SPost.mono h e' Kp.refl
  | ex c ρ => exact fun F' H' e' s => h F' σ H' e' Kp.refl s
  | st => exact h
theorem SPost.soL {r : ER LV} {f : LV → Env → SO} (h : SPost C W pr D σ F (r.so f)) : PostL C W σ F r fun l ρ1 F1 _ _ => SPost C W pr D σ F1 (f l ρ1) := by
  cases r with
  | ok a ρ => exact fun F' H' v e' s => SPost.mono h e' Kp.refl
  | ex c ρ => exact fun F' H' e' s => h F' σ H' e' Kp.refl s
  | st => exact h
theorem SPost.of {o : Option Env} (h : SPost C W pr D σ F (SO.of o)) : ∃ ρ, o = some ρ ∧ SPost C W pr D σ F (.nx ρ) := by
  cases o with
  | none => exact False.elim h
  | some ρ => exact ⟨ρ, rfl, h⟩
/-- the value of a slot on top -/
theorem SR.lift (s : SR C F ρ σ H) {i : Nat} {l : LV} (h : ρ[i]? = some (some l)) : ∃ v, σ[i]? = some (some v) ∧ SR C F (some l :: ρ.set i none) (some v :: σ) H := by
  obtain ⟨fp, h1, h2⟩ := s.own
  obtain ⟨v, hv, rl, nd, q⟩ := h1 i l h
  refine ⟨v, hv, s.le, s.f0, s.keep, s.fo, by simpa using s.len, fun n => match n with
    | 0 => fp i
    | j + 1 => fp j, fun n m e => ?_, fun n n' m m' hnn e e' => ?_⟩
  · cases n with
    | zero => cases (show some (some l) = some (some m) from e); exact ⟨v, rfl, rl, nd, q⟩
    | succ j =>
      rcases set_get (show (ρ.set i none)[j]? = some (some m) by simpa using e) with ⟨_, z, _⟩ | ⟨_, e2⟩
      · cases z
      · obtain ⟨w, hw, r⟩ := h1 j m e2
        exact ⟨w, by simpa using hw, r⟩
  · have tail : ∀ {j : Nat} {m : LV}, (some l :: ρ.set i none)[j + 1]? = some (some m) → j ≠ i ∧ ρ[j]? = some (some m) := fun {j m} e => by
      rcases set_get (show (ρ.set i none)[j]? = some (some m) by simpa using e) with ⟨_, z, _⟩ | ⟨z, e2⟩
      · cases z
      · exact ⟨fun w => z (by first | exact w | exact w.symm), e2⟩
    cases n with
    | zero =>
      cases n' with
      | zero => exact absurd rfl hnn
      | succ j =>
        obtain ⟨z, e2⟩ := tail e'
        exact h2 i j l m' (Ne.symm z) h e2
    | succ i' =>
      cases n' with
      | zero =>
        obtain ⟨z, e2⟩ := tail e
        exact h2 i' i m l z e2 h
      | succ j =>
        obtain ⟨z, e2⟩ := tail e
        obtain ⟨z', e2'⟩ := tail e'
        exact h2 i' j m m' (by omega) e2 e2'
end

section
variable (C : Cb) (Φ : Nat → List LV → CR) (W : WX) (pr : List Nat) (n : Nat)
def tS (st : St) : TS := fun D σ H => ∃ ρ F, SR C F ρ σ H ∧ SPost C W pr D σ F (exS Φ n st ρ)
def tSs (st : List St) : TS := fun D σ H => ∃ ρ F, SR C F ρ σ H ∧ SPost C W pr D σ F (exSs Φ n st ρ)
end

section
variable {C : Cb} {Φ : Nat → List LV → CR} {W : WX} {pr : List Nat} {n : Nat} {X : Cx} {a b c e tg iter : Expr} {es : List Expr} {pos pos' p : Pos} {x y : Str} {st : Stmt} {rest : List Stmt}
theorem ss_nil : PSs X [] (tSs C Φ W pr n []) := pss_nil.weak fun D σ H q => by
  obtain ⟨ρ, F, s, q⟩ := q
  unfold exSs at q
  exact q F σ H (Same.refl F) Kp.refl s
theorem ss_cons {i : St} {is : List St} (h1 : PS X st (tS C Φ W pr n i)) (h2 : PSs X rest (tSs C Φ W pr n is)) : PSs X (st :: rest) (tSs C Φ W pr n (i :: is)) := (pss_cons h1 h2).weak fun D σ H q => by
  obtain ⟨ρ, F, s, q⟩ := q
  unfold exSs at q
  refine ⟨ρ, F, s, ?_⟩
  cases hr : exS Φ n i ρ with
  | nx ρ1 =>
    rw [hr] at q
    have q : SPost C W pr D σ F (exSs Φ n is ρ1) := q
    exact fun F' σ' H' e' k' s' => ⟨ρ1, F', s', q.mono e' k'⟩
  | bk ρ1 => rw [hr] at q; exact q
  | ct ρ1 => rw [hr] at q; exact q
  | rt l ρ1 => rw [hr] at q; exact q
  | ex c ρ1 => rw [hr] at q; exact q
  | st => rw [hr] at q; exact q
theorem st_ret {ir : Ex} (he : PE X e (tL' C Φ W ir)) : PS X (.Return (some e) pos) (tS C Φ W pr n (.ret ir)) := (ps_ret he).weak fun D σ H q => by
  obtain ⟨ρ, F, s, q⟩ := q
  unfold exS at q
  exact ⟨ρ, F, s, q.soL.imp fun l ρ1 F1 H1 v e1 s1 k => k F1 σ H1 v (Same.refl F1) Kp.refl s1⟩
theorem st_retV {i : Nat} (hN : X.N[i]? = some x) (hv : Vis X.env.scope x) (hd : (x == ("__debug__" : Str)) = false := by decide) (hcd : (x == ("__classdict__" : Str)) = false := by decide) : PS X (.Return (some (.Name x p)) pos) (tS C Φ W pr n (.retV i)) :=
  (ps_ret (pe_var hN hv hd hcd)).weak fun D σ H q => by
    obtain ⟨ρ, F, s, q⟩ := q
    unfold exS at q
    unfold at' at q
    split at q
    · rename_i l hl
      split at hl
      · rename_i l' e
        cases hl
        obtain ⟨v, hv, s'⟩ := s.lift e
        exact ⟨v, hv, q F σ H v (Same.refl F) Kp.refl s'⟩
      · cases hl
    · exact False.elim q
theorem st_set {i : Nat} {ir : Ex} (o : XO X C) (hi : X.N[i]? = some x) (hx : Loc X.env.scope x) (hp : i ∉ pr) (he : PE X e (tL' C Φ W ir)) (hs : swapsWith e (some (.Name x pos')) pos.line X.env = pure false := by rfl) (hf : X.fn x = true ∨ X.env.scope.names.lookup x = some .local := by first | exact .inl rfl | exact .inr rfl | assumption) :
    PS X (.Assign [.Name x pos'] e pos) (tS C Φ W pr n (.set i ir)) := (ps_set o.nd hi hx he hs hf).weak fun D σ H q => by
  obtain ⟨ρ, F, s, q⟩ := q
  unfold exS at q
  exact ⟨ρ, F, s, q.soL.imp fun l ρ1 F1 H1 v e1 s1 k => k F1 _ H1 (Same.refl F1) (Kp.set hp) (s1.put i)⟩
/-- name = [..] on one line -/
theorem st_setC {i : Nat} {elt : Expr} {ifs : List Expr} {scope : Scope} {own : List (Str × Nat)} {py spos : Pos} {is : Src} {t : Tg} {ic : List Tst} {ie : Ex} (o : XC X C) (hy : X.N[i]? = some y) (hyl : X.env.scope.names.lookup y = some .local) (hp : i ∉ pr)
    (hsw : swapsWith (.ListComp elt [⟨tg, iter, ifs, 0⟩] scope pos) (some (.Name y py)) spos.line X.env = pure true) (hi : PI X tg iter (tSrc C Φ W is)) (ok : BlkOk X.N X.env.scope scope own) (hv : ∀ i ∈ t.ix, i ∈ own.map (·.2))
    (hg : ∀ (C' : Cb) (hC : C'.K = C.K) (s : Shared) (H : Hp) (D : Addr) (cl : List (Str × Addr)) (fp : List Addr), PG (X.blk s H scope (compEnvC scope cl D X.env) fp) tg (tG C' t))
    (ht : ∀ (C' : Cb) (hC : C'.K = C.K) (s : Shared) (H : Hp) (D : Addr) (cl : List (Str × Addr)) (fp : List Addr), PTs (X.blk s H scope (compEnvC scope cl D X.env) fp) ifs (tTs C' Φ W0 ic))
    (he : ∀ (C' : Cb) (hC : C'.K = C.K) (s : Shared) (H : Hp) (D : Addr) (cl : List (Str × Addr)) (fp : List Addr), PE (X.blk s H scope (compEnvC scope cl D X.env) fp) elt (tE C' Φ W0 ie)) (hs : ∀ x, foldedSetIterable iter X.env x = pure x := by intro _; rfl) :
    PS X (.Assign [.Name y py] (.ListComp elt [⟨tg, iter, ifs, 0⟩] scope pos) spos) (tS C Φ W pr n (.set i (.comp is t (own.map (·.2)) ic ie))) :=
  (ps_setLc o.calm o.nd hy hyl hsw hi ok (fun s H D cl fp => bG.to fun C' hC => hg C' hC s H D cl fp) (fun s H D cl fp => bTs.to fun C' hC => ht C' hC s H D cl fp) (fun s H D cl fp => bE.to fun C' hC => he C' hC s H D cl fp) hs).weak fun D σ H q => by
    obtain ⟨ρ, F, s, q⟩ := q
    unfold exS at q
    exact comp_lc hv (Q := fun v H1 => D.nx (σ.set i (some v)) H1) ⟨ρ, F, s, q.soL.imp fun l ρ1 F1 H1 v e1 s1 k => k F1 _ H1 (Same.refl F1) (Kp.set hp) (s1.put i)⟩
/-- (a, b, ..) = e -/
theorem st_unp {ir : Ex} {t : Tg} (hp : ∀ i ∈ t.ix, i ∉ pr) (he : PE X e (tE C Φ W ir)) (hg : PG X tg (tG C t)) (hs : swapsWithSole [tg] e pos.line X.env = pure false := by rfl) (hw : swappedStores [tg] e X.env = pure none := by rfl)
    (h1 : (assignEach [tg] X.env).map (·.2) = [assign tg X.env] := by rfl) : PS X (.Assign [tg] e pos) (tS C Φ W pr n (.unp t ir)) := (ps_asg he hg hs hw h1).weak fun D σ H q => by
  obtain ⟨ρ, F, s, q⟩ := q
  unfold exS at q
  refine ⟨ρ, F, s, q.so.imp fun p ρ1 F1 H1 e1 s1 k v r => ?_⟩
  obtain ⟨ρ2, hb, k⟩ := k.of
  exact ⟨ρ1, F1, p, ρ2, s1, r, hb, fun σ2 H2 o2 s2 => k F1 σ2 H2 (Same.refl F1) (Kp.only o2 hp) s2⟩
theorem st_if {it : Tst} {ia ib : List St} {sa sb : List Stmt} (hc : PT X c (tT C Φ W it)) (ha : PSs X sa (tSs C Φ W pr n ia)) (hb : PSs X sb (tSs C Φ W pr n ib)) : PS X (.If c sa sb pos) (tS C Φ W pr n (.ite it ia ib)) := (ps_if hc ha hb).weak fun D σ H q => by
  obtain ⟨ρ, F, s, q⟩ := q
  unfold exS at q
  refine ⟨ρ, F, s, q.so.imp fun t ρ1 F1 H1 e1 s1 k => ?_⟩
  cases t with
  | true => exact ⟨ρ1, F1, s1, k⟩
  | false => exact ⟨ρ1, F1, s1, k⟩
theorem st_for {is : Src} {t : Tg} {ib : List St} {sb : List Stmt} (o : XC X C) (hp : PassesOwn (model X.prog X.w) X.A X.env X.xe) (hi : PI X tg iter (tSrc C Φ W is)) (hg : PG X tg (tG C t)) (hd : ∀ i ∈ t.ix, i ∉ pr) (hb : PSs X sb (tSs C Φ W pr n ib))
    (hl : ∀ ρ, exS Φ n (.for is t ib) ρ = (evSrc Φ is ρ).so fun xs ρ1 => forL (bindS (exSs Φ n ib) t) xs ρ1 := by intro _; rfl)
    (hs : ∀ x, foldedSetIterable iter X.env x = pure x := by intro _; rfl) : PS X (.For tg iter sb [] pos) (tS C Φ W pr n (.for is t ib)) := (ps_for hp o.calm hi hg hb hs).weak fun D σ H q => by
  obtain ⟨ρ, F, s, q⟩ := q
  rw [hl] at q
  refine ⟨ρ, F, s, q.so.imp fun xs ρ1 F1 H1 e1 s1 k1 J hJ => ?_⟩
  generalize hf : bindS (exSs Φ n ib) t = f at k1
  let Inv' : Nat → L2.St → Hp → Prop := fun i σ' H' => i ≤ xs.length ∧ Kp pr σ σ' ∧ ∃ ρ' F', Same F1 F' ∧ SR C F' ρ' σ' H' ∧ SPost C W pr D σ' F' (forL f (xs.drop i) ρ')
  refine ⟨fun i m σ' H' => m = xs.length - i ∧ Inv' i σ' H', ⟨xs.length, by simp, Nat.zero_le _, Kp.refl, ρ1, F1, Same.refl F1, s1, by rw [List.drop_zero]; exact k1⟩, ?_⟩
  rintro i m σ2 H2 ⟨rfl, hle, kp2, ρ2, F2, e2, s2, k2⟩
  obtain ⟨J1, J2, J3⟩ := hJ i H2 (e2.trans s2.le)
  by_cases hlt : i < xs.length
  · obtain ⟨p, hp, hdr⟩ := drop_cons hlt
    rw [hdr] at k2
    refine .inr ⟨J1 p hp, Inv' (i + 1), fun σ' H' h => ⟨xs.length - (i + 1), by omega, rfl, h⟩, fun x H3 hy => ?_⟩
    have it : (H3 = H2 ∧ Rep C.K F2 p x) ∨ ∃ a ys l, H2 a = none ∧ x = .ref a ∧ H3 = upd H2 a (.tup ys) ∧ p = .tup l ∧ Reps C.K F2 l ys := by
      rcases J3 x H3 p hp hy with ⟨q1, q2⟩ | ⟨a, ys, l, q1, q2, q3, q4, q5⟩
      · exact .inl ⟨q1, Rep.mono e2 q2⟩
      · exact .inr ⟨a, ys, l, q1, q2, q3, q4, q5.mono e2⟩
    obtain ⟨F3, e3, s3, r3⟩ := s2.item (it.imp id .inl)
    unfold forL at k2
    cases hbd : t.bind p ρ2 with
    | none =>
      have e0 : f p ρ2 = .st := by rw [← hf]; unfold bindS; rw [hbd]
      rw [e0] at k2
      exact False.elim k2
    | some ρ3 =>
      have e0 : f p ρ2 = exSs Φ n ib ρ3 := by rw [← hf]; unfold bindS; rw [hbd]
      rw [e0] at k2
      refine ⟨ρ2, F3, p, ρ3, s3, r3, hbd, fun σ4 H4 o4 s4 => ⟨ρ3, F3, s4, ?_⟩⟩
      have kp4 : Kp pr σ2 σ4 := Kp.only o4 hd
      cases hB : exSs Φ n ib ρ3 with
      | nx ρ5 =>
        rw [hB] at k2
        exact fun F' σ' H' e' k' s' => ⟨hlt, (kp2.trans kp4).trans k', ρ5, F', (e2.trans e3).trans e', s', SPost.mono k2 (e3.trans e') (kp4.trans k')⟩
      | ct ρ5 =>
        rw [hB] at k2
        exact fun F' σ' H' e' k' s' => ⟨hlt, (kp2.trans kp4).trans k', ρ5, F', (e2.trans e3).trans e', s', SPost.mono k2 (e3.trans e') (kp4.trans k')⟩
      | bk ρ5 =>
        rw [hB] at k2
        exact fun F' σ' H' e' k' s' => k2 F' σ' H' (e3.trans e') (kp4.trans k') s'
      | rt l ρ5 =>
        rw [hB] at k2
        exact fun F' σ' H' v e' k' s' => k2 F' σ' H' v (e3.trans e') (kp4.trans k') s'
      | ex c ρ5 =>
        rw [hB] at k2
        exact fun F' σ' H' e' k' s' => k2 F' σ' H' (e3.trans e') (kp4.trans k') s'
      | st => rw [hB] at k2; exact k2
  · have e : i = xs.length := by omega
    subst e
    rw [List.drop_eq_nil_of_le (Nat.le_refl _)] at k2
    exact .inl ⟨J2 (Nat.le_refl _), k2 F2 σ2 H2 (Same.refl F2) Kp.refl s2⟩
/-! ### x[k] = v -/
def rSetX : V → V → V → Hp → (Hp → Prop) → Prop := fun o i v H Q => ∃ a H', o = .ref a ∧ DPutX H a i v H' ∧ Q H'
theorem set_dictX (hu : X.A.units + 20 < cLine) : PSet X rSetX := by
  intro pins s σ H o i v ov iv u Q I ro ri rv h
  obtain ⟨a, H', eo, g, q⟩ := h
  subst eo
  cases (show ov = Value.ref a from ro)
  exact d_setItemX hu I g ri rv fun s' I' => ⟨H', I', q⟩
theorem set_both (hu : X.A.units + 20 < cLine) : PSet X (fun o i v H Q => rSetL o i v H Q ∨ rSetD o i v H Q ∨ rSetX o i v H Q) := by
  intro pins s σ H o i v ov iv u Q I ro ri rv h
  rcases h with h | h | h
  · exact set_list pins s σ H o i v ov iv u Q I ro ri rv h
  · exact set_dict (by omega) pins s σ H o i v ov iv u Q I ro ri rv h
  · exact set_dictX hu pins s σ H o i v ov iv u Q I ro ri rv h
/-! the key that is put, and what lies at it -/
def updV (k : NestedKey) (v : V) : List NestedKey → List V → List V
  | c :: cs, x :: xs => (if c = k then v else x) :: updV k v cs xs
  | _, _ => []
theorem updV_len (k : NestedKey) (v : V) : ∀ {cs : List NestedKey} {xs : List V}, cs.length = xs.length → (updV k v cs xs).length = cs.length
  | [], [], _ => rfl
  | [], _ :: _, h => by cases h
  | _ :: _, [], h => by cases h
  | c :: cs, x :: xs, h => by rw [updV, List.length_cons, List.length_cons, updV_len k v (by simpa using h)]
theorem updV_id {k : NestedKey} {v : V} : ∀ {cs : List NestedKey} {xs : List V}, cs.length = xs.length → k ∉ cs → updV k v cs xs = xs
  | [], [], _, _ => rfl
  | [], _ :: _, h, _ => by cases h
  | _ :: _, [], h, _ => by cases h
  | c :: cs, x :: xs, h, hk => by
    rw [List.mem_cons, not_or] at hk
    rw [updV, if_neg fun z => hk.1 z.symm, updV_id (by simpa using h) hk.2]
theorem putVs_upd {K : PySem.W.Frag} {F : Hp} {k : NestedKey} {p : PV} {v : V} (rp : Rep K F p v) : ∀ {cs : List NestedKey} {l : List PV} {xs : List V}, Reps K F l xs → cs.length = xs.length → cs.Nodup → k ∈ cs → Reps K F (putVs k p cs l) (updV k v cs xs)
  | [], _, _, _, _, _, hk => by cases hk
  | c :: cs, l, [], r, h, _, _ => by cases h
  | c :: cs, [], x :: xs, r, h, _, _ => by cases (show x :: xs = [] from r)
  | c :: cs, q :: l, x :: xs, r, h, nd, hk => by
    obtain ⟨y, ys, e, h1, h2⟩ := r
    cases e
    rw [List.nodup_cons] at nd
    rw [putVs, updV]
    by_cases e : k = c
    · subst e
      rw [if_pos rfl, if_pos rfl, updV_id (by simpa using h) nd.1]
      exact .cons rp h2
    · rw [if_neg e, if_neg fun z => e z.symm]
      exact .cons h1 (putVs_upd rp h2 (by simpa using h) nd.2 ((List.mem_cons.mp hk).resolve_left e))
theorem putVs_new {k : NestedKey} {p : PV} : ∀ {cs : List NestedKey} {l : List PV}, cs.length = l.length → k ∉ cs → putVs k p cs l = l ++ [p]
  | [], [], _, _ => rfl
  | [], _ :: _, h, _ => by cases h
  | _ :: _, [], h, _ => by cases h
  | c :: cs, x :: xs, h, hk => by
    rw [List.mem_cons, not_or] at hk
    rw [putVs, if_neg hk.1, putVs_new (by simpa using h) hk.2]
    rfl
theorem zip3_fst : ∀ {cs : List NestedKey} {bs : List Addr} {xs : List V}, cs.length = bs.length → cs.length = xs.length → (cs.zip (bs.zip xs)).map (·.1) = cs
  | [], _, _, _, _ => rfl
  | c :: cs, [], _, h, _ => by cases h
  | c :: cs, b :: bs, [], _, h => by cases h
  | c :: cs, b :: bs, x :: xs, h, h2 => by
    rw [List.zip_cons_cons, List.zip_cons_cons, List.map_cons, zip3_fst (by simpa using h) (by simpa using h2)]
theorem zip3_upd {k : NestedKey} {v : V} : ∀ {cs : List NestedKey} {bs : List Addr} {xs : List V}, cs.length = bs.length → cs.length = xs.length → (cs.zip (bs.zip xs)).map (fun p => if p.1 = k then (p.1, p.2.1, v) else p) = cs.zip (bs.zip (updV k v cs xs))
  | [], _, _, _, _ => rfl
  | c :: cs, [], _, h, _ => by cases h
  | c :: cs, b :: bs, [], _, h => by cases h
  | c :: cs, b :: bs, x :: xs, h, h2 => by
    rw [updV, List.zip_cons_cons, List.zip_cons_cons, List.map_cons, zip3_upd (by simpa using h) (by simpa using h2), List.zip_cons_cons, List.zip_cons_cons]
    congr 1
    dsimp only
    split <;> rfl
theorem zip3_new {k : NestedKey} {b : Addr} {v : V} : ∀ {cs : List NestedKey} {bs : List Addr} {xs : List V}, cs.length = bs.length → cs.length = xs.length → cs.zip (bs.zip xs) ++ [(k, b, v)] = (cs ++ [k]).zip ((bs ++ [b]).zip (xs ++ [v]))
  | [], [], [], _, _ => rfl
  | [], _ :: _, _, h, _ => by cases h
  | [], _, _ :: _, _, h => by cases h
  | c :: cs, [], _, h, _ => by cases h
  | c :: cs, b :: bs, [], _, h => by cases h
  | c :: cs, b :: bs, x :: xs, h, h2 => by
    rw [List.zip_cons_cons, List.zip_cons_cons, List.cons_append, zip3_new (by simpa using h) (by simpa using h2)]
    rfl
theorem zip3_keys {K : PySem.W.Frag} {F H : Hp} (e : Same F H) : ∀ {ks : List PV} {bs : List Addr} {xs : List V}, Reps K F ks (bs.map V.ref) → ks.all PV.kok = true → NKs H ((ks.map PV.kq).zip (bs.zip xs))
  | [], _, _, _, _ => fun p hp => nomatch hp
  | k :: ks, [], _, r, _ => by obtain ⟨_, _, h, _⟩ := r; cases h
  | k :: ks, b :: bs, [], _, _ => fun p hp => by rw [List.zip_nil_right, List.zip_nil_right] at hp; cases hp
  | k :: ks, b :: bs, x :: xs, r, h => by
    obtain ⟨y, ys, e1, h1, h2⟩ := r
    cases e1
    rw [List.all_cons, Bool.and_eq_true] at h
    intro p hp
    rw [List.map_cons, List.zip_cons_cons, List.zip_cons_cons] at hp
    rcases List.mem_cons.mp hp with rfl | hp
    · obtain ⟨n1, n2, _⟩ := h1.kok e h.1
      exact ⟨n1, n2⟩
    · exact zip3_keys e h2 h.2 p hp
theorem keysX_zip : ∀ {cs : List NestedKey} {bs : List Addr} {xs : List V}, cs.length = bs.length → keysX (cs.zip (bs.zip xs)) = cs.zip xs
  | [], _, _, _ => rfl
  | c :: cs, [], _, h => by cases h
  | c :: cs, b :: bs, [], h => by rw [List.zip_nil_right, List.zip_nil_right, List.zip_nil_right]; rfl
  | c :: cs, b :: bs, x :: xs, h => by
    rw [List.zip_cons_cons, List.zip_cons_cons, List.zip_cons_cons, ← keysX_zip (bs := bs) (by simpa using h)]
    rfl
theorem keysT_eq {K : PySem.W.Frag} {F : Hp} : ∀ {l : List PV} {k : List Key} {xs : List V}, keysT l = some k → Reps K F l xs → xs = k.map kV
  | [], k, xs, h, r => by
    cases h
    exact r
  | p :: l, k, xs, h, r => by
    obtain ⟨x, ys, rfl, h1, h2⟩ := r
    unfold keysT at h
    split at h
    · rename_i c r' hc hr
      cases h
      rw [keysT_eq hr h2]
      cases p with
      | int i => cases hc; rw [show x = V.int i from h1]; rfl
      | str i => cases hc; rw [show x = V.str i from h1]; rfl
      | _ => cases hc
    · cases h
theorem set_ix {F H : Hp} {ρ : Env} {σ : L2.St} (s : SR C F ρ σ H) {i : Nat} {p q : PV} {l' : LV} {v w : V} (h : ((at' ρ i).bind fun l => setIxP l q p) = some l') (rq : Rep C.K F q w) (rp : Rep C.K F p v) :
    ∃ a, σ[i]? = some (some (.ref a)) ∧ ∀ Q : Hp → Prop, (∀ H', SR C F (ρ.set i (some l')) σ H' → Q H') → rSetL (.ref a) w v H Q ∨ rSetD (.ref a) w v H Q ∨ rSetX (.ref a) w v H Q := by
  unfold at' at h
  split at h
  · rename_i l e
    replace h : setIxP l q p = some l' := h
    unfold setIxP at h
    split at h
    · rename_i l k
      obtain ⟨j, hj, rfl⟩ := Option.map_eq_some_iff.mp h
      obtain ⟨a, ha, ⟨xs, hH, rr⟩, _⟩ := s.ownAt e
      refine ⟨a, ha, fun Q hQ => .inl ⟨a, xs, k, j, rfl, rq, hH, by rw [← rr.length]; exact hj, hQ _ (s.write e ha ⟨xs.set j v, upd_same, Reps.set rp j rr⟩)⟩⟩
    · rename_i ks vs hk
      obtain ⟨k, hk, h⟩ := Option.bind_eq_some_iff.mp h
      split at h
      · rename_i hl
        cases h
        obtain ⟨a, ha, ⟨xs, hH, hlen, nd, rr⟩, _⟩ := s.ownAt e
        obtain ⟨ys, h1, h2, h3⟩ := put_zip (k := k) rp rr hlen nd
        have hw : w = kV k := by
          cases q with
          | int i => cases hk; exact rq
          | str i => cases hk; exact rq
          | _ => cases hk
        subst hw
        refine ⟨a, ha, fun Q hQ => .inr <| .inl ⟨a, _, rfl, DPut.k hH ?_, hQ _ (s.write e ha ⟨ys, ?_, h2, putKs_nd nd, h3⟩)⟩⟩
        · rw [List.length_zip, ← hlen, Nat.min_self]
          exact Nat.lt_of_lt_of_le hl (lim_line (Nat.le_refl _))
        · rw [upd_same, h1]
      · cases h
    · rename_i ks vs l hk
      obtain ⟨k, hk, h⟩ := Option.bind_eq_some_iff.mp h
      split at h
      · rename_i hl
        cases h
        obtain ⟨a, ha, ⟨xs, hH, hlen, nd, rr⟩, _⟩ := s.ownAt e
        obtain ⟨ys, h1, h2, h3⟩ := put_zip (k := k) rp rr hlen nd
        obtain ⟨b, zs, rfl, hb, rz⟩ := rq
        have hz := keysT_eq hk rz
        subst hz
        refine ⟨a, ha, fun Q hQ => .inr <| .inl ⟨a, _, rfl, DPut.t hH (s.le _ _ hb) ?_, hQ _ (s.write e ha ⟨ys, ?_, h2, putKs_nd nd, h3⟩)⟩⟩
        · rw [List.length_zip, ← hlen, Nat.min_self]
          exact Nat.lt_of_lt_of_le hl (lim_line (Nat.le_refl _))
        · rw [upd_same, h1]
      · cases h
    · rename_i ks vs
      split at h
      · rename_i hl
        cases h
        obtain ⟨a, ha, ⟨bs, xs, hH, hl1, hl2, hok, nd, rk, rv⟩, _⟩ := s.ownAt e
        obtain ⟨n1, n2, n3, b, rfl⟩ := rq.kok s.le hl.1
        have nk := zip3_keys (xs := xs) s.le rk hok
        have hm1 : (ks.map PV.kq).length = bs.length := by rw [List.length_map]; exact hl1
        have hm2 : (ks.map PV.kq).length = xs.length := by rw [List.length_map]; exact hl2
        have hz : ((ks.map PV.kq).zip (bs.zip xs)).length < sizeLine := by
          have : ((ks.map PV.kq).zip (bs.zip xs)).length ≤ ks.length := by rw [List.length_zip, List.length_map]; exact Nat.min_le_left _ _
          exact Nat.lt_of_le_of_lt this (Nat.lt_of_lt_of_le hl.2 (lim_line (Nat.le_refl _)))
        have hv : vs.length = xs.length := rv.length
        refine ⟨a, ha, fun Q hQ => .inr <| .inr ⟨a, _, rfl, ⟨_, q.kq, b, hH, nk, rfl, n1, n2, n3, hz, rfl⟩, hQ _ (s.write e ha ?_)⟩⟩
        unfold putX putXs
        rw [zip3_fst hm1 hm2]
        by_cases c : q.kq ∈ ks.map PV.kq
        · rw [if_pos c, if_pos c, zip3_upd hm1 hm2]
          exact ⟨bs, _, upd_same, hl1, by rw [updV_len _ _ hm2, List.length_map], hok, nd, rk, putVs_upd rp rv hm2 nd c⟩
        · rw [if_neg c, if_neg c, zip3_new hm1 hm2, putVs_new (by rw [List.length_map, hl2, hv]) c]
          refine ⟨bs ++ [b], xs ++ [v], by rw [upd_same, List.map_append]; rfl, by rw [List.length_append, List.length_append, hl1]; rfl, by rw [List.length_append, List.length_append, hl2]; rfl, by rw [List.all_append, hok]; simp [hl.1], ?_, ?_, rv.append (.cons rp .nil)⟩
          · rw [List.map_append, List.nodup_append]
            refine ⟨nd, by simp, fun x hx y hy => ?_⟩
            rw [List.map_singleton, List.mem_singleton] at hy
            subst hy
            exact fun z => c (z ▸ hx)
          · rw [List.map_append]
            exact rk.append (.cons rq .nil)
      · cases h
    · cases h
  · cases h
theorem slotInt_rep {F H : Hp} {ρ : Env} {σ : L2.St} (s : SR C F ρ σ H) {j : Nat} {k : Int} (h : slotInt ρ j = some k) : σ[j]? = some (some (.int k)) := by
  unfold slotInt at h
  split at h
  · rename_i k' hl
    cases h
    unfold at' at hl
    split at hl
    · rename_i l e
      cases hl
      obtain ⟨v, hv, r⟩ := s.fro e
      have r : v = .int k := r
      rw [hv, r]
    · cases hl
  · cases h
/-- x[y] with a name that holds a number -/
theorem g_atV {i j : Nat} {y : Str} {py : Pos} (o : XO X C) (hN : X.N[i]? = some x) (hv : Vis X.env.scope x) (hN2 : X.N[j]? = some y) (hv2 : Vis X.env.scope y) (hd : (x == ("__debug__" : Str)) = false := by decide) (hcd : (x == ("__classdict__" : Str)) = false := by decide)
    (hd2 : (y == ("__debug__" : Str)) = false := by decide) (hcd2 : (y == ("__classdict__" : Str)) = false := by decide) :
    PG X (.Subscript (.Name x p) (.Name y py) pos) (tG C (.atV i j)) := (pg_sub (pe_var hN hv hd hcd) (pe_var hN2 hv2 hd2 hcd2) (set_both (by have := o.un; omega)) (by intro _; rfl)).weak fun v σ H Q q => by
  obtain ⟨ρ, F, p, ρ', s, r, hb, kk⟩ := q
  unfold Tg.bind at hb
  split at hb
  · rename_i l hl
    cases hb
    obtain ⟨k, hk, hl⟩ := Option.bind_eq_some_iff.mp hl
    obtain ⟨a, ha, hq⟩ := set_ix s (w := .int k) hl rfl r
    exact ⟨.ref a, ha, .int k, slotInt_rep s hk, hq _ fun H' s' => kk σ H' Only.refl s'⟩
  · cases hb
theorem st_setIx {i : Nat} {ik ir : Ex} {p2 : Pos} (o : XO X C) (hN : X.N[i]? = some x) (hv : Vis X.env.scope x) (hk : PE X b (tE C Φ W ik)) (he : PE X e (tE C Φ W ir)) (hs : swapsWithSole [.Subscript (.Name x p) b p2] e pos.line X.env = pure false := by rfl) (hw : swappedStores [.Subscript (.Name x p) b p2] e X.env = pure none := by rfl)
    (h1 : (assignEach [.Subscript (.Name x p) b p2] X.env).map (·.2) = [assign (.Subscript (.Name x p) b p2) X.env] := by rfl)
    (ha : ∀ v, assign (.Subscript (.Name x p) b p2) X.env v = (do
      let ov ← holding [v] (eval (.Name x p) X.env)
      let iv ← holding [v, ov] (eval b X.env)
      standAt p2
      holding [v, ov, iv] (setItem ov iv v)
      release [v, ov, iv] []) := by intro _; rfl)
    (hd : (x == ("__debug__" : Str)) = false := by decide) (hcd : (x == ("__classdict__" : Str)) = false := by decide) :
    PS X (.Assign [.Subscript (.Name x p) b p2] e pos) (tS C Φ W pr n (.setIx i ik ir)) :=
  (ps_asg he (pg_sub (pe_var hN hv hd hcd) hk (set_both (by have := o.un; omega)) ha) hs hw h1).weak fun D σ H q => by
    obtain ⟨ρ, F, s, q⟩ := q
    unfold exS at q
    refine ⟨ρ, F, s, q.so.imp fun p ρ1 F1 H1 e1 s1 k1 v r => ?_⟩
    by_cases hsome : (at' ρ1 i).isSome = true
    case neg => rw [if_neg hsome] at k1; exact False.elim k1
    rw [if_pos hsome] at k1
    have hat : ∃ l, ρ1[i]? = some (some l) := by
      unfold at' at hsome
      split at hsome
      · rename_i l e; exact ⟨l, e⟩
      · cases hsome
    obtain ⟨l0, hl0⟩ := hat
    obtain ⟨v0, fp0, hv0, _⟩ := s1.get hl0
    refine ⟨v0, hv0, ρ1, F1, s1, k1.so.imp fun q ρ2 F2 H2 e2 s2 k2 w rw' => ?_⟩
    split at k2
    · rename_i l hl
      obtain ⟨a, ha, hq⟩ := set_ix s2 hl rw' (Rep.mono e2 r)
      rw [hv0] at ha
      cases ha
      exact hq _ fun H' s' => k2 F2 σ H' (Same.refl F2) Kp.refl s'
    · exact False.elim k2
/-! ### x.append(e), x.extend(e) -/
theorem ownL_at {ρ : Env} {i : Nat} (h : ownL ρ i = true) : ∃ l, ρ[i]? = some (some (.own (.lst l))) := by
  unfold ownL at'  at h
  split at h
  · rename_i l e
    split at e
    · rename_i l' e'
      cases e
      exact ⟨l, e'⟩
    · cases e
  · cases h
theorem st_app {i : Nat} {ir : Ex} {apos cpos p : Pos} (hN : X.N[i]? = some x) (hv : Vis X.env.scope x) (he : PE X e (tE C Φ W ir))
    (hbase : attributeBase (.Name x p) "append" X.env (eval (.Name x p) X.env) = eval (.Name x p) X.env := by rfl)
    (hfew : ((backTo cpos (starEach [e] X.env)).all (fun x => !x.1) && (backToKw cpos (keywordEach [] X.env)).all (fun x => x.1.isSome)
      && decide (([e] : List Expr).length + ([] : List Keyword).length + (if ([] : List Keyword).isEmpty then 0 else 1) < 30)) = true := by rfl)
    (hline : (apos.endLine == cpos.line) = true := by rfl) (hst : starEach [e] X.env = (false, eval e X.env) :: starEach [] X.env := by rfl)
    (hd : (x == ("__debug__" : Str)) = false := by decide) (hcd : (x == ("__classdict__" : Str)) = false := by decide)
    (hs : swapsWith (.Call (.Attribute (.Name x p) "append" apos) [e] [] cpos) none pos.line X.env = pure false := by rfl) :
    PS X (.Expr (.Call (.Attribute (.Name x p) "append" apos) [e] [] cpos) pos) (tS C Φ W pr n (.app i ir)) :=
  (ps_expr (pe_bm PySem.F.plainAttrs_list PySem.F.slot_list_append PySem.F.type_list_append mt_append (pe_var hN hv hd hcd) (pa_cons he pa_nil hst) hbase hfew hline hst rfl) hs).weak fun D σ H q => by
    obtain ⟨ρ, F, s, q⟩ := q
    unfold exS at q
    by_cases ho : ownL ρ i = true
    case neg => rw [if_neg ho] at q; exact False.elim q
    rw [if_pos ho] at q
    obtain ⟨l0, hl0⟩ := ownL_at ho
    obtain ⟨a, ha, ⟨xs0, hH0, _⟩, _⟩ := s.ownAt hl0
    refine ⟨.ref a, ha, .inl ⟨rfl, xs0, .inl (.inl hH0)⟩, ρ, F, s, q.so.imp fun p ρ1 F1 H1 e1 s1 k1 v r => ?_⟩
    split at k1
    · rename_i l hl
      split at k1
      · rename_i hlim
        unfold at' at hl
        split at hl
        · rename_i l' hl'
          cases hl
          obtain ⟨a', ha', ⟨xs, hH, rr⟩, _⟩ := s1.ownAt hl'
          rw [ha] at ha'
          cases ha'
          exact ⟨a, xs, v, rfl, rfl, hH, by rw [← rr.length]; exact Nat.lt_of_lt_of_le hlim (lim_line (Nat.le_refl _)), k1 F1 σ _ (Same.refl F1) Kp.refl (s1.write hl' ha ⟨xs ++ [v], upd_same, rr.append (.cons r .nil)⟩)⟩
        · cases hl
      · exact False.elim k1
    · exact False.elim k1
/-! ### raise -/
end
end Br
set_option maxHeartbeats 1000000
/-! BrE6: defs; the law's end. -/
namespace Br
open PySem PySem.Spec PyProof.Rows L2

section
variable {C : Cb} {F H : Hp} {ρ ρ2 : Env} {σ σ2 : L2.St}
theorem SR.sub (s : SR C F ρ σ H) (hl : ρ2.length = σ2.length) (h : ∀ (i : Nat) (l : LV), ρ2[i]? = some (some l) → ρ[i]? = some (some l) ∧ σ2[i]? = σ[i]?) : SR C F ρ2 σ2 H := by
  obtain ⟨fp, h1, h2⟩ := s.own
  refine ⟨s.le, s.f0, s.keep, s.fo, hl, fp, fun i l e => ?_, fun i j l m hij e e' => h2 i j l m hij (h i l e).1 (h j m e').1⟩
  obtain ⟨q1, q2⟩ := h i l e
  obtain ⟨v, hv, r⟩ := h1 i l q1
  exact ⟨v, q2.trans hv, r⟩
theorem SR.pad (s : SR C F ρ σ H) (n : Nat) : SR C F (ρ ++ List.replicate n none) (σ ++ List.replicate n none) H := by
  obtain ⟨fp, h1, h2⟩ := s.own
  have key : ∀ (i : Nat) (l : LV), (ρ ++ List.replicate n none)[i]? = some (some l) → ρ[i]? = some (some l) := fun i l e => by
    by_cases hi : i < ρ.length
    · rw [List.getElem?_append_left hi] at e; exact e
    · rw [List.getElem?_append_right (by omega), List.getElem?_replicate] at e
      split at e <;> cases e
  refine ⟨s.le, s.f0, s.keep, s.fo, by simp [s.len], fp, fun i l e => ?_, fun i j l m hij e e' => h2 i j l m hij (key i l e) (key j m e')⟩
  obtain ⟨v, hv, r⟩ := h1 i l (key i l e)
  refine ⟨v, ?_, r⟩
  rw [List.getElem?_append_left (by rw [← s.len]; exact (List.getElem?_eq_some_iff.mp (key i l e)).1)]
  exact hv
theorem lvsOf_ok : ∀ {n : Nat} {ρ : Env} {as : List LV}, lvsOf ρ n = some as → as.length = n ∧ ∀ (i : Nat) (l : LV), as[i]? = some l → ρ[i]? = some (some l)
  | 0, ρ, as, h => by
    have h : some [] = some as := by cases ρ <;> exact h
    cases h
    exact ⟨rfl, fun i l e => by simp at e⟩
  | n + 1, [], as, h => by cases h
  | n + 1, none :: ρ, as, h => by cases h
  | n + 1, some l0 :: ρ, as, h => by
    obtain ⟨as', h1, rfl⟩ := Option.map_eq_some_iff.mp (show (lvsOf ρ n).map (l0 :: ·) = some as from h)
    obtain ⟨q1, q2⟩ := lvsOf_ok h1
    refine ⟨by simp [q1], fun i l e => ?_⟩
    cases i with
    | zero => simpa using e
    | succ i => simpa using q2 i l (by simpa using e)
theorem ioOk_at {io : List Nat} : ∀ {ls : List LV} {k i : Nat} {l : LV}, ioOk io k ls = true → ls[i]? = some l → l.isFro = false → k + i ∈ io
  | [], k, i, l, _, e, _ => by simp at e
  | .fro p :: ls, k, i, l, h, e, f => by
    cases i with
    | zero => simp at e; subst e; cases f
    | succ i =>
      have := ioOk_at (k := k + 1) (i := i) (show ioOk io (k + 1) ls = true from h) (by simpa using e) f
      rwa [Nat.add_assoc, Nat.add_comm 1 i] at this
  | .own p :: ls, k, i, l, h, e, f => by
    have h : (decide (k ∈ io) && ioOk io (k + 1) ls) = true := h
    rw [Bool.and_eq_true, decide_eq_true_eq] at h
    cases i with
    | zero => exact h.1
    | succ i =>
      have := ioOk_at (k := k + 1) (i := i) h.2 (by simpa using e) f
      rwa [Nat.add_assoc, Nat.add_comm 1 i] at this
  | .ins a b c :: ls, k, i, l, h, e, f => by
    have h : (decide (k ∈ io) && ioOk io (k + 1) ls) = true := h
    rw [Bool.and_eq_true, decide_eq_true_eq] at h
    cases i with
    | zero => exact h.1
    | succ i =>
      have := ioOk_at (k := k + 1) (i := i) h.2 (by simpa using e) f
      rwa [Nat.add_assoc, Nat.add_comm 1 i] at this
end

/-- what a body may use -/
structure BX (X : Cx) (C : Cb) (W : WX) (k : Nat) : Prop where
  o : XC X C
  tk : Takes X W
  po : PassesOwn (model X.prog X.w) X.A X.env X.xe
  room : Room k X.A
section
variable {P : Program} {w : World} {K : PySem.W.Frag} {mg : Str → Option Value} {base : Heap} {x qual : Str} {params : Arguments} {body : List Stmt} {scope : Scope} {f : Addr} {fd : FuncData} {N ps : List Str} {k n : Nat} {Φ : Nat → List LV → CR}
theorem runFn_ok {fn : Fn} {ls : List LV} (h : runFn Φ n fn ls ≠ .st) : ls.length = fn.np ∧ fn.np ≤ fn.nn ∧ ioOk fn.io 0 ls = true := by
  unfold runFn at h
  by_cases hc : ls.length = fn.np ∧ fn.np ≤ fn.nn ∧ ioOk fn.io 0 ls = true
  · exact hc
  · rw [if_neg hc] at h
    exact absurd rfl h
/-- out of a body -/
theorem SR.leave {C : Cb} {F' H' : Hp} {ρ : Env} {σ σ' : L2.St} {ls as : List LV} {vs : List V} {io : List Nat} {np : Nat} {r : LV} {v : V} (s : SR C F' (some r :: ρ) (some v :: σ') H') (hvs : vs.length = ls.length) (hio : ioOk io 0 ls = true) (hnp : ls.length = np) (has : lvsOf ρ np = some as)
    (kp : Kp io (vs.map some ++ σ) σ') : as.length = ls.length ∧ SR C F' (some r :: maskL ls as) (some v :: vs.map some) H' := by
  obtain ⟨q1, q2⟩ := lvsOf_ok has
  have hal : as.length = ls.length := by omega
  refine ⟨hal, s.sub (by simp [maskL_len hal, hvs]) fun i l e => ?_⟩
  cases i with
  | zero => exact ⟨e, rfl⟩
  | succ i =>
    have e : (maskL ls as)[i]? = some (some l) := by simpa using e
    obtain ⟨l0, l1, e1, e2, e3⟩ := maskL_get e
    have hf : l0.isFro = false := by
      cases h : l0.isFro with
      | false => rfl
      | true => rw [h] at e3; cases e3
    rw [hf, if_neg Bool.false_ne_true] at e3
    cases e3
    refine ⟨by simpa using q2 i l e2, ?_⟩
    have hi := ioOk_at hio e1 hf
    rw [Nat.zero_add] at hi
    have := kp i hi
    have hlt : i < vs.length := by rw [hvs]; exact (List.getElem?_eq_some_iff.mp e1).1
    rw [List.getElem?_append_left (by simpa using hlt)] at this
    simpa using this.symm
/-- THE RULE for a def -/
theorem def_ok (fn : Fn) {dvs : List V} {kws : List (Str × V)} (F : FunD K x qual params body scope dvs kws f fd) (S : FnScope N ps scope) (hN : fn.nn = N.length) (hp : fn.np = ps.length)
    (hb : ∀ (cdv : Value) (A : Around) (outer : List PySem.Env) (s : Shared) (H : Hp) (E : XK) (C : Cb),
      BX (cxOf (L2.CX P w) P w K mg base N qual scope f cdv A outer s H E) C (fun cls d _ H => E cls d H) k →
      PSs (cxOf (L2.CX P w) P w K mg base N qual scope f cdv A outer s H E) body (tSs C Φ (fun cls d _ H => E cls d H) fn.io n fn.body)) :
    FnOk P w K mg base (L2.CX P w) (k + 1) f fd ps (spOf K (runFn Φ n fn)) := by
  have hns : ∀ {vs H Q E}, spOf K (runFn Φ n fn) vs H Q E → ∃ F ls fp, SR ⟨K, H, F, fp⟩ F (ls.map some) (vs.map some) H ∧ (vs.length = ls.length ∧ ls.length = fn.np ∧ fn.np ≤ fn.nn ∧ ioOk fn.io 0 ls = true) ∧ (match runFn Φ n fn ls with
      | .ok r ls' => ∀ v H' F', SR ⟨K, H, F, fp⟩ F' (some r :: maskL ls ls') (some v :: vs.map some) H' → Q v H'
      | .ex c ls' => ∀ H' F', SR ⟨K, H, F, fp⟩ F' (maskL ls ls') (vs.map some) H' → E (.ref (He.ga K c)) none H'
      | .st => False) := fun {vs H Q E} h => by
    obtain ⟨F0, ls, fp, sr, h⟩ := h
    have h1 := sr.len
    rw [List.length_map, List.length_map] at h1
    refine ⟨F0, ls, fp, sr, ⟨h1.symm, runFn_ok (Φ := Φ) (n := n) fun z => ?_⟩, h⟩
    rw [z] at h
    exact h
  refine F.ok S (fun vs H Q E h => ?_) (fun cdv A outer s H vs Q E hr h => ?_)
  · obtain ⟨_, ls, _, _, ⟨h1, h2, _⟩, _⟩ := hns h
    omega
  · obtain ⟨F0, ls, fp, sr, hc, h⟩ := hns h
    refine ⟨tSs ⟨K, H, F0, fp⟩ Φ (fun cls d _ H => E cls d H) fn.io n fn.body, ?_, ?_⟩
    · refine hb cdv A outer s H E ⟨K, H, F0, fp⟩ ⟨⟨⟨rfl, S.nd, ?_⟩, rfl⟩, takes_of rfl rfl rfl rfl, PassesOwn.leaving, hr⟩
      have := hr.un
      show (A.deeper _).units + 131 < cLine
      omega
    · obtain ⟨hvs, hnp, hnn, hio⟩ := hc
      have e1 : frameOf fn ls = ls.map some ++ List.replicate (N.length - vs.length) none := by
        unfold frameOf
        rw [hN, hvs]
      unfold runFn at h
      rw [if_pos ⟨hnp, hnn, hio⟩, e1] at h
      refine ⟨ls.map some ++ List.replicate (N.length - vs.length) none, F0, sr.pad _, ?_⟩
      cases hr : exSs Φ n fn.body (ls.map some ++ List.replicate (N.length - vs.length) none) with
      | nx ρ =>
        rw [hr] at h
        dsimp only at h
        cases hl : lvsOf ρ fn.np with
        | none => rw [hl] at h; exact h.elim
        | some as =>
          rw [hl] at h
          intro F' σ' H' e' k' s'
          obtain ⟨q1, q2⟩ := SR.leave (s'.push (p := .non) (v := .non) rfl) hvs hio hnp hl k'
          exact h _ _ _ q2
      | rt r ρ =>
        rw [hr] at h
        dsimp only at h
        cases hl : lvsOf ρ fn.np with
        | none => rw [hl] at h; exact h.elim
        | some as =>
          rw [hl] at h
          intro F' σ' H' v e' k' s'
          obtain ⟨q1, q2⟩ := SR.leave s' hvs hio hnp hl k'
          exact h _ _ _ q2
      | ex c ρ =>
        rw [hr] at h
        dsimp only at h
        cases hl : lvsOf ρ fn.np with
        | none => rw [hl] at h; exact h.elim
        | some as =>
          rw [hl] at h
          intro F' σ' H' e' k' s'
          obtain ⟨q1, q2⟩ := SR.leave (s'.push (p := .non) (v := .non) rfl) hvs hio hnp hl k'
          exact h _ _ q2.pop
      | bk ρ => rw [hr] at h; exact h.elim
      | ct ρ => rw [hr] at h; exact h.elim
      | st => rw [hr] at h; exact h.elim
end

/-! ### the law -/
theorem reps_ints {K : PySem.W.Frag} {F : Hp} : ∀ (ns : List Int), Reps K F (ns.map PV.int) (ns.map V.int)
  | [] => rfl
  | n :: ns => .cons rfl (reps_ints ns)
end Br
set_option maxHeartbeats 1000000
/-! BrE7: the rules by their forms. -/
namespace Br
open PySem PySem.Spec PyProof.Rows L2

def visB (sc : Scope) (x : Str) : Bool := match sc.names.lookup x with
  | some .local => true
  | some .cell => true
  | some .free => true
  | _ => false
theorem visBy {sc : Scope} {x : Str} (h : visB sc x = true) : Vis sc x := by
  unfold visB at h
  split at h
  · exact .inl (by assumption)
  · exact .inr (.inl (by assumption))
  · exact .inr (.inr (by assumption))
  · cases h
def locB (sc : Scope) (x : Str) : Bool := match sc.names.lookup x with
  | some .local => true
  | some .cell => true
  | _ => false
theorem locBy {sc : Scope} {x : Str} (h : locB sc x = true) : Loc sc x := by
  unfold locB at h
  split at h
  · exact .inl (by assumption)
  · exact .inr (by assumption)
  · cases h
section
variable {C : Cb} {Φ : Nat → List LV → CR} {W : WX} {X : Cx} {a b c e : Expr} {es : List Expr} {pos p : Pos} {x : Str} {ia ib ic : Arg}
theorem oc (o : XO X C) {f : Value → Value → Sem Value} {op : Op} (h : OpR X f (R2of X.K op)) : OpR X f (R2of C.K op) := by rw [o.K]; exact h
theorem occ (o : XO X C) {f : Value → Value → Sem Value} {op : Op} {v : V} (h : OpR X f (fun x y H Q => y = v ∧ rOp X.K op [x] H Q)) : OpR X f (fun x y H Q => y = v ∧ rOp C.K op [x] H Q) := by rw [o.K]; exact h
theorem cc (o : XO X C) {f : Value} {op : Op} (h : CallR X f (fun xs H Q => rOp X.K op xs H Q)) : CallR X f (fun xs H Q => rOp C.K op xs H Q) := by rw [o.K]; exact h
theorem b_add (o : XO X C) (ha : PE X a (tA1 C Φ W ia)) (hb : PE X b (tA1 C Φ W ib)) : PE X (.BinOp a .Add b pos) (tO C Φ W .add [ia, ib]) := o_bin (oc o or_add) ha hb
theorem b_sub (o : XO X C) (ha : PE X a (tA1 C Φ W ia)) (hb : PE X b (tA1 C Φ W ib)) : PE X (.BinOp a .Sub b pos) (tO C Φ W .sub [ia, ib]) := o_bin (oc o or_sub) ha hb
theorem b_mul (o : XO X C) (ha : PE X a (tA1 C Φ W ia)) (hb : PE X b (tA1 C Φ W ib)) : PE X (.BinOp a .Mult b pos) (tO C Φ W .mul [ia, ib]) := o_bin (oc o or_mul) ha hb
theorem b_fdiv (o : XO X C) (ha : PE X a (tA1 C Φ W ia)) (hb : PE X b (tA1 C Φ W ib)) : PE X (.BinOp a .FloorDiv b pos) (tO C Φ W .fdiv [ia, ib]) := o_bin (oc o or_fdiv) ha hb
theorem b_mod (o : XO X C) (ha : PE X a (tA1 C Φ W ia)) (hb : PE X b (tA1 C Φ W ib)) : PE X (.BinOp a .Mod b pos) (tO C Φ W .mod [ia, ib]) := o_bin (oc o or_mod) ha hb
theorem b_pow (o : XO X C) (ha : PE X a (tA1 C Φ W ia)) (hb : PE X b (tA1 C Φ W ib)) : PE X (.BinOp a .Pow b pos) (tO C Φ W .pow [ia, ib]) := o_bin (oc o or_pow) ha hb
theorem un64 (o : XO X C) : X.A.units + 64 < cLine := by have := o.un; omega
theorem un65 (o : XO X C) : X.A.units + 65 < cLine := by have := o.un; omega
theorem c_eq (o : XO X C) (ha : PE X a (tA1 C Φ W ia)) (hb : PE X b (tA1 C Φ W ib)) : PE X (.Compare a [.Eq] [b] pos) (tO C Φ W .eq [ia, ib]) := o_cmp (oc o (or_eq (un64 o))) (nomark b) ha hb
theorem c_lt (o : XO X C) (ha : PE X a (tA1 C Φ W ia)) (hb : PE X b (tA1 C Φ W ib)) : PE X (.Compare a [.Lt] [b] pos) (tO C Φ W .lt [ia, ib]) := o_cmp (oc o (or_lt o.un)) (nomark b) ha hb
theorem c_ge (o : XO X C) (ha : PE X a (tA1 C Φ W ia)) (hb : PE X b (tA1 C Φ W ib)) : PE X (.Compare a [.GtE] [b] pos) (tO C Φ W .ge [ia, ib]) := o_cmp (oc o (or_ge o.un)) (nomark b) ha hb
theorem c_isNN (o : XO X C) {j} {p2 : Pos} (ha : PE X a (tA1 C Φ W ia)) : PE X (.Compare a [.IsNot] [.Constant .none j p2] pos) (tO C Φ W .isNN [ia]) := o_cmpC (occ o or_isNN) (nomark _) ha pe_non
/-! the same as tests -/
theorem x_eq (o : XO X C) (ha : PE X a (tA1 C Φ W ia)) (hb : PE X b (tA1 C Φ W ib)) : PT X (.Compare a [.Eq] [b] pos) (tT C Φ W (.e (.app .eq [ia, ib]))) := t_cmp (oc o (or_eq (un64 o))) (nomark b) ha hb
theorem x_ne (o : XO X C) (ha : PE X a (tA1 C Φ W ia)) (hb : PE X b (tA1 C Φ W ib)) : PT X (.Compare a [.NotEq] [b] pos) (tT C Φ W (.e (.app .ne [ia, ib]))) := t_cmp (oc o (or_ne (un64 o))) (nomark b) ha hb
theorem x_lt (o : XO X C) (ha : PE X a (tA1 C Φ W ia)) (hb : PE X b (tA1 C Φ W ib)) : PT X (.Compare a [.Lt] [b] pos) (tT C Φ W (.e (.app .lt [ia, ib]))) := t_cmp (oc o (or_lt o.un)) (nomark b) ha hb
theorem x_gt (o : XO X C) (ha : PE X a (tA1 C Φ W ia)) (hb : PE X b (tA1 C Φ W ib)) : PT X (.Compare a [.Gt] [b] pos) (tT C Φ W (.e (.app .gt [ia, ib]))) := t_cmp (oc o or_gt) (nomark b) ha hb
theorem x_ge (o : XO X C) (ha : PE X a (tA1 C Φ W ia)) (hb : PE X b (tA1 C Φ W ib)) : PT X (.Compare a [.GtE] [b] pos) (tT C Φ W (.e (.app .ge [ia, ib]))) := t_cmp (oc o (or_ge o.un)) (nomark b) ha hb
theorem x_isNN (o : XO X C) {j} {p2 : Pos} (ha : PE X a (tA1 C Φ W ia)) : PT X (.Compare a [.IsNot] [.Constant .none j p2] pos) (tT C Φ W (.e (.app .isNN [ia]))) := t_cmpC (occ o or_isNN) (nomark _) ha pe_non
theorem x_isNB (o : XO X C) {t : Bool} {j} {p2 : Pos} (ha : PE X a (tA1 C Φ W ia)) : PT X (.Compare a [.IsNot] [.Constant (.bool t) j p2] pos) (tT C Φ W (.e (.app (.isNB t) [ia]))) := t_cmpC (occ o or_isNB) (nomark _) ha pe_bl
/-- two order comparisons in a row -/
theorem ch (o : XO X C) {op op' : CmpOp} {o1 o2 : Op} {ja jb jc : Ex} (ho : OpR X (compareOp op) (R2of X.K o1)) (ho' : OpR X (compareOp op') (R2of X.K o2)) (ha : PE X a (tE C Φ W ja)) (hb : PE X b (tE C Φ W jb)) (hc : PE X c (tE C Φ W jc)) (hm : lastMarks [op, op'] [b, c] = false := by with_unfolding_all rfl) :
    PE X (.Compare a [op, op'] [b, c] pos) (tE C Φ W (.chain o1 o2 ja jb jc)) := e_chain (oc o ho) (oc o ho') hm ha hb hc
theorem xch (o : XO X C) {op op' : CmpOp} {o1 o2 : Op} {ja jb jc : Ex} (ho : OpR X (compareOp op) (R2of X.K o1)) (ho' : OpR X (compareOp op') (R2of X.K o2)) (ha : PE X a (tE C Φ W ja)) (hb : PE X b (tE C Φ W jb)) (hc : PE X c (tE C Φ W jc)) (hm : lastMarks [op, op'] [b, c] = false := by with_unfolding_all rfl) :
    PT X (.Compare a [op, op'] [b, c] pos) (tT C Φ W (.e (.chain o1 o2 ja jb jc))) := t_chain (oc o ho) (oc o ho') hm ha hb hc
/-! builtins -/
theorem as1 (ha : PE X a (tA1 C Φ W ia)) (he : starEach [a] X.env = (false, eval a X.env) :: starEach [] X.env) : PA X [a] (tAs C Φ W [ia]) := as_cons ha as_nil he
theorem as2 (ha : PE X a (tA1 C Φ W ia)) (hb : PE X b (tA1 C Φ W ib)) (he : starEach [a, b] X.env = (false, eval a X.env) :: starEach [b] X.env) (he2 : starEach [b] X.env = (false, eval b X.env) :: starEach [] X.env) : PA X [a, b] (tAs C Φ W [ia, ib]) := as_cons ha (as1 hb he2) he
theorem pl1 (he2 : starEach [b] X.env = (false, eval b X.env) :: starEach [] X.env) : (backTo pos (starEach [b] X.env)).any (·.1) = false := by rw [he2]; rfl
theorem f_len (o : XO X C) (hg : Gl X "len") (hm : X.mg "len" = none) (ha : PE X a (tA1 C Φ W ia)) (he : starEach [a] X.env = (false, eval a X.env) :: starEach [] X.env := by rfl) : PE X (.Call (.Name "len" p) [a] [] pos) (tO C Φ W .len [ia]) := o_blt (cc o cr_len) hg hm boot_len (as1 ha he) (by decide) (by decide) he rfl
theorem f_sum (o : XC X C) (hg : Gl X "sum") (hm : X.mg "sum" = none) (ha : PE X a (tA1 C Φ W ia)) (he : starEach [a] X.env = (false, eval a X.env) :: starEach [] X.env := by rfl) : PE X (.Call (.Name "sum" p) [a] [] pos) (tO C Φ W .sum [ia]) := o_blt (cc o.toXO (cr_sumA o.calm)) hg hm boot_sum (as1 ha he) (by decide) (by decide) he rfl
theorem f_abs (o : XO X C) (hg : Gl X "abs") (hm : X.mg "abs" = none) (ha : PE X a (tA1 C Φ W ia)) (he : starEach [a] X.env = (false, eval a X.env) :: starEach [] X.env := by rfl) : PE X (.Call (.Name "abs" p) [a] [] pos) (tO C Φ W .abs [ia]) := o_blt (cc o cr_abs) hg hm boot_abs (as1 ha he) (by decide) (by decide) he rfl
theorem f_all (o : XC X C) (hg : Gl X "all") (hm : X.mg "all" = none) (ha : PE X a (tA1 C Φ W ia)) (he : starEach [a] X.env = (false, eval a X.env) :: starEach [] X.env := by rfl) : PE X (.Call (.Name "all" p) [a] [] pos) (tO C Φ W .allL [ia]) := o_blt (cc o.toXO (cr_allL o.calm)) hg hm boot_all (as1 ha he) (by decide) (by decide) he rfl
theorem f_int (o : XO X C) (hg : Gl X "int") (hm : X.mg "int" = none) (ha : PE X a (tA1 C Φ W ia)) (he : starEach [a] X.env = (false, eval a X.env) :: starEach [] X.env := by rfl) : PE X (.Call (.Name "int" p) [a] [] pos) (tO C Φ W .int1 [ia]) := o_ty (cc o cr_int1) hg hm PyProof.Rows.boot_int (as1 ha he) (by decide) (by decide) he rfl
theorem f_tuple (o : XO X C) (hg : Gl X "tuple") (hm : X.mg "tuple" = none) (ha : PE X a (tA1 C Φ W ia)) (he : starEach [a] X.env = (false, eval a X.env) :: starEach [] X.env := by rfl) : PE X (.Call (.Name "tuple" p) [a] [] pos) (tO C Φ W .tuple1 [ia]) := o_ty (cc o cr_tuple1) hg hm PyProof.Rows.boot_tuple (as1 ha he) (by decide) (by decide) he rfl
theorem f_list (o : XO X C) (hg : Gl X "list") (hm : X.mg "list" = none) (ha : PE X a (tA1 C Φ W ia)) (he : starEach [a] X.env = (false, eval a X.env) :: starEach [] X.env := by rfl) : PE X (.Call (.Name "list" p) [a] [] pos) (tO C Φ W .list1 [ia]) := o_ty (cc o cr_list1) hg hm PyProof.Rows.boot_list (as1 ha he) (by decide) (by decide) he rfl
theorem f_min2 (o : XC X C) (hg : Gl X "min") (hm : X.mg "min" = none) (ha : PE X a (tA1 C Φ W ia)) (hb : PE X b (tA1 C Φ W ib)) (he : starEach [a, b] X.env = (false, eval a X.env) :: starEach [b] X.env := by rfl) (he2 : starEach [b] X.env = (false, eval b X.env) :: starEach [] X.env := by rfl) : PE X (.Call (.Name "min" p) [a, b] [] pos) (tO C Φ W .min2 [ia, ib]) := o_blt (cc o.toXO (cr_min2 o.calm)) hg hm boot_min (as2 ha hb he he2) (by decide) (by decide) he (pl1 he2)
theorem f_max2 (o : XC X C) (hg : Gl X "max") (hm : X.mg "max" = none) (ha : PE X a (tA1 C Φ W ia)) (hb : PE X b (tA1 C Φ W ib)) (he : starEach [a, b] X.env = (false, eval a X.env) :: starEach [b] X.env := by rfl) (he2 : starEach [b] X.env = (false, eval b X.env) :: starEach [] X.env := by rfl) : PE X (.Call (.Name "max" p) [a, b] [] pos) (tO C Φ W .max2 [ia, ib]) := o_blt (cc o.toXO (cr_max2 o.calm)) hg hm boot_max (as2 ha hb he he2) (by decide) (by decide) he (pl1 he2)
/-- d.get(k, x) -/
theorem m_dget (o : XO X C) {apos cpos : Pos} (ha : PE X a (tA1 C Φ W ia)) (hb : PE X b (tA1 C Φ W ib)) (hc : PE X c (tA1 C Φ W ic)) (m : M2 X a "get" apos b c cpos := by constructor <;> rfl) : PE X (.Call (.Attribute a "get" apos) [b, c] [] cpos) (tM C Φ W .dget ia [ib, ic]) :=
  (pe_dget2 (by have := o.un; omega) ha hb hc m).weak fun σ H Q q => by
    refine tA1.imp q fun x H1 k => ?_
    obtain ⟨⟨F, p, e, hr, hp⟩, k⟩ := k
    cases p with
    | dK ks l =>
      obtain ⟨a, xs, rfl, hh, _⟩ := hp
      refine ⟨a, rfl, .inl ⟨_, hh⟩, ?_⟩
      obtain ⟨ρ, F1, s1, k⟩ := tAs_cons k
      refine ⟨ρ, F1, s1, k.imp fun av ρ1 F2 H2 e2 s2 k2 y ry => ?_⟩
      obtain ⟨ρ2, F3, s3, k3⟩ := tAs_cons (k2 y ry)
      refine ⟨ρ2, F3, s3, k3.imp fun av ρ1 F2 H2 e2 s2 k2 z rz => ?_⟩
      have k4 := tAs_nil (k2 z rz)
      obtain ⟨a', o', ea, hg, hq⟩ := dget_ok (show rOp C.K .dget [.ref a, y, z] H2 Q from k4)
      cases ea
      exact ⟨o', hg, hq⟩
    | _ => cases hr
/-- a type's name -/
theorem ty_int (hg : Gl X "int") (hm : X.mg "int" = none) : PE X (.Name "int" p) (tC (.ty "int")) := pe_bltn hg hm PyProof.Rows.boot_int rfl
theorem ty_tuple (hg : Gl X "tuple") (hm : X.mg "tuple" = none) : PE X (.Name "tuple" p) (tC (.ty "tuple")) := pe_bltn hg hm PyProof.Rows.boot_tuple rfl
theorem boot_bool' : bootBuiltins "bool" = some (.type "bool") := by decide +kernel
theorem ty_bool (hg : Gl X "bool") (hm : X.mg "bool" = none) : PE X (.Name "bool" p) (tC (.ty "bool")) := pe_bltn hg hm boot_bool' rfl
end
end Br
set_option maxHeartbeats 1000000
/-! BrE8: a law's defs by names. -/
namespace Br
open PySem PySem.Spec PyProof.Rows L2

/-- a def that may be called by its name -/
def Ok (P : Program) (w : World) (K : PySem.W.Frag) (mg : Str → Option Value) (base : Heap) (k : Nat) (x : Str) (ps : List Str) (g : List LV → CR) : Prop :=
  ∃ fd, FnOk P w K mg base (L2.CX P w) k (He.ga K x) fd ps (spOf K g) ∧ PySem.W.keepIn K (.ref (He.ga K x)) = true ∧ Binds K fd ps [] ∧ mg x = some (.ref (He.ga K x))
/-- a def of the text, as it stands behind the top -/
def Dn (K : PySem.W.Frag) (mg : Str → Option Value) (x : Str) (st : Stmt) : Prop := (∃ fd, FunD K x x (defArgs st) (defBody st) (defScope st) [] [] (He.ga K x) fd) ∧ mg x = some (.ref (He.ga K x))
section
variable {P : Program} {w : World} {K : PySem.W.Frag} {mg : Str → Option Value} {base : Heap} {x : Str} {st : Stmt} {N ps : List Str} {k n : Nat} {Φ : Nat → List LV → CR}
theorem def_at (fn : Fn) (D : Dn K mg x st) (S : FnScope N ps (defScope st)) (hN : fn.nn = N.length) (hp : fn.np = ps.length)
    (hbind : ∀ (kV doc pm : Value) (an : Option Addr) (cdv ct : Value) (us : List Value), us.length = ps.length → bindArgs (PySem.W.fnOf x x (defArgs st) (defBody st) (defScope st) .none kV doc pm an cdv ct) ⟨us, []⟩ = pure (ps.zip us))
    (hb : ∀ (cdv : Value) (A : Around) (outer : List PySem.Env) (s : Shared) (H : Hp) (E : XK) (C : Cb),
      BX (cxOf (L2.CX P w) P w K mg base N x (defScope st) (He.ga K x) cdv A outer s H E) C (fun cls d _ H => E cls d H) k →
      PSs (cxOf (L2.CX P w) P w K mg base N x (defScope st) (He.ga K x) cdv A outer s H E) (defBody st) (tSs C Φ (fun cls d _ H => E cls d H) fn.io n fn.body)) :
    Ok P w K mg base (k + 1) x ps (runFn Φ n fn) := by
  obtain ⟨⟨fd, F⟩, hm⟩ := D
  exact ⟨fd, def_ok fn F S hN hp hb, F.kp, F.bindsN hbind, hm⟩
end
/-- a def's promise at one around -/
structure FnAt (P : Program) (w : World) (K : PySem.W.Frag) (mg : Str → Option Value) (base : Heap) (CX : CXT) (A : Around) (f : Addr) (fd : FuncData) (ps : List Str) (sp : Sp) : Prop where
  len : ∀ vs H Q E, sp vs H Q E → vs.length = ps.length
  run : ∀ (outer : List PySem.Env) (s : Shared) (H : Hp) (args : Args) (us : List Value) (vs : List V) (Q : VK) (E : XK), Env0 P w K mg base A outer s H → BindsTo s fd args (ps.zip us) → Vals vs us → sp vs H Q E →
    codeAny (model P w) A (.call (.ref f) args) (L2.CR CX outer P w H s Q E) s
theorem fn_ofA {CX : CXT} {P : Program} {w : World} {K : PySem.W.Frag} {mg : Str → Option Value} {base : Heap} {k : Nat} {A : Around} {f : Addr} {name qual : Str} {params : Arguments} {body : List Stmt} {scope : Scope} {dV kV doc pm cdv ct oc : Value} {an od : Option Addr}
    {osl : Array (Option Value)} {N ps : List Str} {sp : Sp} (hr : Room (k + 1) A) (lk : K.lookup f = some ⟨oc, od, .func (PySem.W.fnOf name qual params body scope dV kV doc pm an cdv ct), osl⟩) (hcd : PySem.W.codeIn K cdv qual = true) (S : FnScope N ps scope)
    (len : ∀ vs H Q E, sp vs H Q E → vs.length = ps.length)
    (hbody : ∀ (outer : List PySem.Env) (s : Shared) (H : Hp) (vs : List V) (Q : VK) (E : XK), Room k (A.deeper (envOfC qual scope s.heap.objs.size f cdv)) → sp vs H Q E →
      ∃ t, PSs (cxOf CX P w K mg base N qual scope f cdv A outer s H E) body t ∧ t { nx := fun _ H' => Q .non H', rt := Q } (start N vs) H) :
    FnAt P w K mg base CX A f (PySem.W.fnOf name qual params body scope dV kV doc pm an cdv ct) ps sp := by
  refine ⟨len, fun outer s H args us vs Q E e0 hb r hsp => ?_⟩
  have hl := len _ _ _ _ hsp
  have KX : K.In s.heap := e0.mod.kin.keeps fun b o e => (e0.bs b o e).1
  have lim : s.heap.NoLimit := e0.mod.nolimit.keeps fun b o e => (e0.bs b o e).1
  have hkind : ∀ y ∈ ps.zip us, scope.names.lookup y.1 = some .local ∨ (scope.names.lookup y.1 = some .cell ∧ ((cellsFrom (s.heap.objs.size + 1) scope.names []).lookup y.1).isSome = true) := fun ⟨n, v⟩ hy => by
    rcases S.par n (List.of_mem_zip hy).1 with q | q
    · exact .inl q
    · exact .inr ⟨q, PySem.W.cellsFrom_some _ _ _ (.inl q)⟩
  refine codeAny_call_function hr.depth (KX _ _ lk) rfl S.co S.gen rfl (PySem.W.codeRec_of KX hcd) (hb _ _ _ _ ?_)
  refine wpAny_newFunctionEnv_cells S.kind hkind fun env he s1 x => ?_
  subst he
  refine ⟨lim.keeps x.toInCall.keep, codeAny_func ?_⟩
  obtain ⟨t, ht, hq⟩ := hbody outer s H vs Q E (hr.deeper _) hsp
  have I : Inv (cxOf CX P w K mg base N qual scope f cdv A outer s H E) [] (start N vs) H s1 := inv_start S hr.hd e0 hl r x
  refine wpAny_mono (ht.run [] s1 (start N vs) H _ I hq) (fun fl s' hs => ?_) fun e s' hs => hs
  have fin : ∀ {σ' : L2.St} {H' : Hp} {v : V} {u : Value}, Inv (cxOf CX P w K mg base N qual scope f cdv A outer s H E) [] σ' H' s' → RelV v u → Q v H' → CE outer P w H s Q u s' :=
    fun {σ' H' v u} J rv q => ⟨v, H', J.os, J.bare, J.base, J.hok, rv, q⟩
  cases fl with
  | ret u =>
    obtain ⟨v, σ', H', J, rv, q⟩ := hs
    exact fin J rv q
  | next =>
    obtain ⟨σ', H', J, q⟩ := hs
    exact fin (v := V.non) (u := Value.none) J rfl q
  | brk =>
    obtain ⟨_, _, _, q⟩ := hs
    exact False.elim q
  | cont =>
    obtain ⟨_, _, _, q⟩ := hs
    exact False.elim q
section
variable {P : Program} {w : World} {K : PySem.W.Frag} {mg : Str → Option Value} {base : Heap} {A : Around} {x : Str} {st : Stmt} {N ps : List Str} {k n : Nat} {Φ : Nat → List LV → CR}
theorem body_start0 {fn : Fn} {ls : List LV} {vs : List V} {H F0 : Hp} {fp : List Addr} {Q : VK} {E : XK} (hN : fn.nn = N.length) (hc : vs.length = ls.length ∧ ls.length = fn.np ∧ fn.np ≤ fn.nn ∧ ioOk fn.io 0 ls = true) (sr : SR ⟨K, H, F0, fp⟩ F0 (ls.map some) (vs.map some) H)
    (h : match runFn Φ n fn ls with
      | .ok r ls' => ∀ v H' F', SR ⟨K, H, F0, fp⟩ F' (some r :: maskL ls ls') (some v :: vs.map some) H' → Q v H'
      | .ex c ls' => ∀ H' F', SR ⟨K, H, F0, fp⟩ F' (maskL ls ls') (vs.map some) H' → E (.ref (He.ga K c)) none H'
      | .st => False) : tSs ⟨K, H, F0, fp⟩ Φ (fun cls d _ H => E cls d H) fn.io n fn.body { nx := fun _ H' => Q .non H', rt := Q } (L2.start N vs) H := by
  obtain ⟨hvs, hnp, hnn, hio⟩ := hc
  have e1 : frameOf fn ls = ls.map some ++ List.replicate (N.length - vs.length) none := by
    unfold frameOf
    rw [hN, hvs]
  unfold runFn at h
  rw [if_pos ⟨hnp, hnn, hio⟩, e1] at h
  refine ⟨ls.map some ++ List.replicate (N.length - vs.length) none, F0, sr.pad _, ?_⟩
  cases hr : exSs Φ n fn.body (ls.map some ++ List.replicate (N.length - vs.length) none) with
  | nx ρ =>
    rw [hr] at h
    dsimp only at h
    cases hl : lvsOf ρ fn.np with
    | none => rw [hl] at h; exact h.elim
    | some as =>
      rw [hl] at h
      intro F' σ' H' e' k' s'
      obtain ⟨q1, q2⟩ := SR.leave (s'.push (p := .non) (v := .non) rfl) hvs hio hnp hl k'
      exact h _ _ _ q2
  | rt r ρ =>
    rw [hr] at h
    dsimp only at h
    cases hl : lvsOf ρ fn.np with
    | none => rw [hl] at h; exact h.elim
    | some as =>
      rw [hl] at h
      intro F' σ' H' v e' k' s'
      obtain ⟨q1, q2⟩ := SR.leave s' hvs hio hnp hl k'
      exact h _ _ _ q2
  | ex c ρ =>
    rw [hr] at h
    dsimp only at h
    cases hl : lvsOf ρ fn.np with
    | none => rw [hl] at h; exact h.elim
    | some as =>
      rw [hl] at h
      intro F' σ' H' e' k' s'
      obtain ⟨q1, q2⟩ := SR.leave (s'.push (p := .non) (v := .non) rfl) hvs hio hnp hl k'
      exact h _ _ q2.pop
  | bk ρ => rw [hr] at h; exact h.elim
  | ct ρ => rw [hr] at h; exact h.elim
  | st => rw [hr] at h; exact h.elim
/-- a def that may be called at this around -/
def OkA (P : Program) (w : World) (K : PySem.W.Frag) (mg : Str → Option Value) (base : Heap) (A : Around) (x : Str) (ps : List Str) (g : List LV → CR) : Prop :=
  ∃ fd, FnAt P w K mg base (L2.CX P w) A (He.ga K x) fd ps (spOf K g) ∧ PySem.W.keepIn K (.ref (He.ga K x)) = true ∧ Binds K fd ps [] ∧ mg x = some (.ref (He.ga K x))
theorem def_atA (fn : Fn) (D : Dn K mg x st) (hr : Room (k + 1) A) (hg : A.guards = some []) (S : FnScope N ps (defScope st)) (hN : fn.nn = N.length) (hp : fn.np = ps.length)
    (hbind : ∀ (kV doc pm : Value) (an : Option Addr) (cdv ct : Value) (us : List Value), us.length = ps.length → bindArgs (PySem.W.fnOf x x (defArgs st) (defBody st) (defScope st) .none kV doc pm an cdv ct) ⟨us, []⟩ = pure (ps.zip us))
    (hb : ∀ (cdv : Value) (outer : List PySem.Env) (s : Shared) (H : Hp) (E : XK) (C : Cb),
      BX (cxOf (L2.CX P w) P w K mg base N x (defScope st) (He.ga K x) cdv A outer s H E) C (fun cls d _ H => E cls d H) k →
      (cxOf (L2.CX P w) P w K mg base N x (defScope st) (He.ga K x) cdv A outer s H E).A.guards = some [] →
      PSs (cxOf (L2.CX P w) P w K mg base N x (defScope st) (He.ga K x) cdv A outer s H E) (defBody st) (tSs C Φ (fun cls d _ H => E cls d H) fn.io n fn.body)) :
    OkA P w K mg base A x ps (runFn Φ n fn) := by
  obtain ⟨⟨fd, F⟩, hm⟩ := D
  refine ⟨fd, ?_, F.kp, F.bindsN hbind, hm⟩
  obtain ⟨oc, od, dV, kV, doc, pm, an, cdv, ct, osl, rfl, lk, hcd, _, _⟩ := F.ex
  have hns : ∀ {vs H Q E}, spOf K (runFn Φ n fn) vs H Q E → ∃ F ls fp, SR ⟨K, H, F, fp⟩ F (ls.map some) (vs.map some) H ∧ (vs.length = ls.length ∧ ls.length = fn.np ∧ fn.np ≤ fn.nn ∧ ioOk fn.io 0 ls = true) ∧ (match runFn Φ n fn ls with
      | .ok r ls' => ∀ v H' F', SR ⟨K, H, F, fp⟩ F' (some r :: maskL ls ls') (some v :: vs.map some) H' → Q v H'
      | .ex c ls' => ∀ H' F', SR ⟨K, H, F, fp⟩ F' (maskL ls ls') (vs.map some) H' → E (.ref (He.ga K c)) none H'
      | .st => False) := fun {vs H Q E} h => by
    obtain ⟨F0, ls, fp, sr, h⟩ := h
    have h1 := sr.len
    rw [List.length_map, List.length_map] at h1
    refine ⟨F0, ls, fp, sr, ⟨h1.symm, runFn_ok (Φ := Φ) (n := n) fun z => ?_⟩, h⟩
    rw [z] at h
    exact h
  refine fn_ofA hr lk hcd S (fun vs H Q E h => ?_) (fun outer s H vs Q E hr h => ?_)
  · obtain ⟨_, ls, _, _, ⟨h1, h2, _⟩, _⟩ := hns h
    omega
  · obtain ⟨F0, ls, fp, sr, hc, h⟩ := hns h
    refine ⟨tSs ⟨K, H, F0, fp⟩ Φ (fun cls d _ H => E cls d H) fn.io n fn.body, ?_, ?_⟩
    · refine hb cdv outer s H E ⟨K, H, F0, fp⟩ ⟨⟨⟨rfl, S.nd, ?_⟩, rfl⟩, takes_of rfl rfl rfl rfl, PassesOwn.leaving, hr⟩ hg
      have := hr.un
      show (A.deeper _).units + 131 < cLine
      omega
    · exact body_start0 hN hc sr h
end
section
variable {C : Cb} {Φ : Nat → List LV → CR} {W : WX} {X : Cx} {a b c e : Expr} {es : List Expr} {pos p : Pos} {x : Str} {k j : Nat} {ps : List Str} {irs : List Arg}
theorem l_fn (o : XO X C) (h : Ok X.prog X.w X.K X.mg X.base k x ps (Φ j)) (hr : Room k X.A) (hg : Gl X x) (tk : Takes X W) (ha : PA X (e :: es) (tAs C Φ W irs)) (hdb : (x == ("__debug__" : Str)) = false := by decide)
    (he : starEach (e :: es) X.env = (false, eval e X.env) :: starEach es X.env := by rfl) (hpl : (backTo pos (starEach es X.env)).any (·.1) = false := by rfl) : PE X (.Call (.Name x p) (e :: es) [] pos) (tL' C Φ W (.call j irs)) := by
  obtain ⟨fd, F, hk, hb, hm⟩ := h
  exact l_call o F hr hg hm hk hb tk ha hdb he hpl
/-- a module's int -/
theorem e_gint {i : Int} {t : Tok} (hg : Gl X x) (hm : ∃ t, X.mg x = some (.int i t)) (hd : (x == ("__debug__" : Str)) = false := by decide) : PE X (.Name x p) (tE C Φ W (.cst (.int i))) := by
  obtain ⟨t, hm⟩ := hm
  exact (pe_glob (v := .int i) hg hm ⟨t, rfl⟩ hd).weak fun _ _ _ q => tE_cst (c := .int i) (fun _ _ => rfl) q
end
section
variable {fa : List He.Fa} {fn : List He.DefD} {K : PySem.W.Frag} {h : Heap} {mg : Str → Option Value}
theorem dn_of (X : K.In h) (G : h.Ns mainGlobals mg) (c : He.SaysD fa fn K) (i j : Nat) {x : Str} {st : Stmt} (hd : fn[i]? = some ⟨(x, none), x, x, defArgs st, defBody st, defScope st, [], []⟩) (hf : fa[j]? = some (.glo x)) : Dn K mg x st := by
  obtain ⟨fd, F⟩ := c.def_ i hd
  exact ⟨⟨fd, F⟩, He.glo_ok X G (c.fact j hf)⟩
theorem fr_of (X : K.In h) (G : h.Ns mainGlobals mg) (c : He.SaysD fa fn K) (j : Nat) {x : Str} (hf : fa[j]? = some (.free x)) : mg x = none := He.free_ok X G (c.fact j hf)
theorem gi_of (X : K.In h) (G : h.Ns mainGlobals mg) (c : He.SaysD fa fn K) (j : Nat) {x : Str} {i : Int} (hf : fa[j]? = some (.int x i)) : ∃ t, mg x = some (.int i t) := He.int_ok X G (c.fact j hf)
end
theorem law_callE {P : Program} {w : World} {K : PySem.W.Frag} {mg mb : Str → Option Value} {CX : CXT} {fa a : Addr} {x : Str} {sp : Sp} {s₁ : Shared} {vs : List Value} {ns : List Int}
    (KX : K.In s₁.heap) (hns : s₁.heap.Ns mainGlobals mg) (hb : s₁.heap.Ns builtinsNs mb) (hbb : ∀ x : Str, x ≠ "__name__" → mb x = bootBuiltins x) (hlim : s₁.heap.NoLimit) (hg : s₁.gens = #[])
    (ha : s₁.heap.get? a = some { cls := .type "list", data := .seq vs.toArray }) (hi : IntsAre vs ns) (hl : ns.length ≤ sizeLine)
    (F : ∀ base : Heap, K.In base → base.Ns mainGlobals mg → ∃ fd, FnAt P w K mg base CX callerA fa fd [x] sp ∧ Binds K fd [x] [])
    (hsp : ∀ H : Hp, L2.Only H → SqE K H a (ns.map V.int) → sp [.ref a] H (fun v _ => v = .bl true) fun _ _ _ => False)
    (hCX : ∀ H e s', CX [] H s₁ (fun _ _ _ => False) e s' → False) :
    codeAny (model P w) callerA (.call (.ref fa) ⟨[.ref a], []⟩) (fun r s' => r = .ok (.ret (.bool true)) ∧ OldK s₁.heap s'.heap ∧ s'.os = s₁.os ∧ AllBare s'.gens) s₁ := by
  have rv := vals_ints hi
  have lenV := hi.length
  have core : ∀ H : Hp, L2.Only H → SqE K H a (ns.map V.int) → HOk P w H s₁.heap → (∀ b, H b ≠ none → b = a) → (H a ≠ none → K.lookup a = none) →
      codeAny (model P w) callerA (.call (.ref fa) ⟨[.ref a], []⟩) (fun r s' => r = .ok (.ret (.bool true)) ∧ OldK s₁.heap s'.heap ∧ s'.os = s₁.os ∧ AllBare s'.gens) s₁ := by
    intro H hO hS hok hA hK
    have base_of : ∀ {b : Addr} {o : Obj}, s₁.heap.get? b = some o → H b = none → (hidT s₁.heap H).get? b = some o := fun e n => hidT_get e n
    have noA : ∀ {b : Addr} {o : Obj} {es : Array DictEntry} {ep : Nat}, s₁.heap.get? b = some o → o.data = .dict es ep → H b = none := fun {b o es ep} e d => by
      cases q : H b with
      | none => rfl
      | some u =>
        have e' : b = a := hA b (by rw [q]; simp)
        subst e'
        rw [ha] at e; cases e
        have d' : Data.seq vs.toArray _ = Data.dict es ep := d
        cases d'
    have nsK : ∀ {b : Addr} {m : Str → Option Value}, s₁.heap.Ns b m → (hidT s₁.heap H).Ns b m := fun {b m} ⟨o, es, ep, e, d, r⟩ => ⟨o, es, ep, base_of e (noA e d), d, r⟩
    have hKb : K.In (hidT s₁.heap H) := fun b o e => base_of (KX b o e) (by
      cases q : H b with
      | none => rfl
      | some u =>
        have e' : b = a := hA b (by rw [q]; simp)
        subst e'
        rw [hK (by rw [q]; simp)] at e; cases e)
    have hM : Mod K mg (hidT s₁.heap H) := ⟨hKb, nsK hns, ⟨mb, nsK hb, hbb⟩, let ⟨mc, h1, h2⟩ := hlim; ⟨mc, nsK h1, h2⟩⟩
    have e0 : Env0 P w K mg (hidT s₁.heap H) callerA [] s₁ H := ⟨rfl, hM, fun b o e => of_hidT e, Nat.le_of_eq (hidT_size _ _), trivial, fun b hb => absurd (show b ∈ ([] : List Addr) from hb) (by simp), hok, .of_eq hg⟩
    obtain ⟨fd, hF, hB⟩ := F _ hKb (nsK hns)
    refine codeAny_mono (hF.run [] s₁ H ⟨[.ref a], []⟩ [.ref a] [.ref a] _ _ e0 (hB s₁ [.ref a] KX rfl) (.cons rfl .nil) (hsp H hO hS)) fun r s' h => ?_
    cases r with
    | error e => exact (hCX H e s' h).elim
    | ok fl =>
      cases fl with
      | next => exact False.elim h
      | brk => exact False.elim h
      | cont => exact False.elim h
      | ret u =>
        obtain ⟨v, H', os, bare, un, hok', r', q⟩ := h
        have q' : v = .bl true := q
        subst q'
        obtain rfl : u = Value.bool true := r'
        refine ⟨rfl, OldK.of_keep fun b o e => ?_, os, bare⟩
        cases q : H b with
        | none => exact un.keep b o e q (by intro z; exact absurd (show b ∈ ([] : List Addr) from z) (by simp)) (by simp)
        | some u =>
          rcases hO b with z | ⟨ob, xs, z⟩
          · rw [q] at z; cases z
          · have z2 := un.frzs b ob _ z
            obtain ⟨e1, _⟩ := hok b _ z
            obtain ⟨e2, _⟩ := hok' b _ z2
            rw [e] at e1; cases e1
            exact e2
  cases hk : K.lookup a with
  | some o =>
    have e := KX a o hk
    rw [ha] at e
    cases e
    refine core (fun _ => none) (fun _ => .inl rfl) (.inr ⟨vs.toArray, _, hk, by rw [List.size_toArray, lenV]; exact hl, by simpa using rv⟩) (fun b u z => by have z' : (none : Option HO) = some u := z; cases z') (fun b z => absurd rfl z) fun z => absurd rfl z
  | none =>
    refine core (fun b => if b = a then some (.frz { cls := .type "list", data := .seq vs.toArray } (.lst (ns.map V.int))) else none) (fun b => ?_) (.inl (.inr ⟨{ cls := .type "list", data := .seq vs.toArray }, if_pos rfl⟩)) (fun b u z => ?_) (fun b z => ?_) fun _ => hk
    · by_cases hb : b = a
      · exact .inr ⟨_, _, if_pos hb⟩
      · exact .inl (if_neg hb)
    · by_cases hb : b = a
      · have z' := (if_pos hb).symm.trans z
        cases z'
        subst hb
        exact ⟨ha, by rw [List.length_map]; exact hl, vs, _, rv, ha⟩
      · have z' := (if_neg hb).symm.trans z
        cases z'
    · by_cases hb : b = a
      · exact hb
      · exact absurd (if_neg hb) z
/-- a law's end over a head by facts: g, what the law's def computes -/
theorem walk_P {l : PySem.W.OpenLaw} {n : Nat} {q : Program} {loose : List Str} {XP : (Str → Option Value) → Heap → Prop} {YP : World → Heap → Prop} {d : DefRec} {x : Str} {g : List LV → CR}
    (hn : l.most = some n) (hn2 : n ≤ sizeLine) (hdf : d.params.defaults = [])
    (pure_ : ∀ ns : List Int, ns.length ≤ n → ∃ ls', g [.fro (.lst (ns.map .int))] = .ok (.fro (.bl true)) ls')
    (F : ∀ (w : World) (mg : Str → Option Value) (h : Heap), YP w h → h.Ns mainGlobals mg →
      ∃ K : PySem.W.Frag, K.In h ∧ ∀ base : Heap, K.In base → base.Ns mainGlobals mg → OkA l.prog w K mg base callerA d.name [x] g) :
    PySem.W.WalkO q loose XP YP l.row.toRowW d [] (fun f vs => PySem.call f vs) := by
  refine Att.attach_call hn hdf fun w s₀ s₁ mg mb fa o pm cd doc a vs ns G Y ho hd hcd hmg hobj hints hlen hg => ?_
  obtain ⟨K, KX, hF⟩ := F w mg _ Y G.T.g
  refine law_callE (CX := L2.CX l.prog w) (sp := spOf K g) (x := x) KX G.T.g G.T.b G.T.builtins G.T.nolimit hg hobj hints (Nat.le_trans hlen hn2) (fun base hK hB => ?_) (fun H hO hS => ?_) fun H e s' h => ?_
  · obtain ⟨fd, h1, h2, h3, h4⟩ := hF base hK hB
    have e := hmg.symm.trans h4
    cases e
    exact ⟨fd, h1, h3⟩
  · refine ⟨H, [.fro (.lst (ns.map .int))], [], ⟨Same.refl H, Same.refl H, fun _ _ h _ => h, fun a h => .inl h, rfl, fun _ => [], fun i l e => ?_, fun i j l m hij e e' => ?_⟩, ?_⟩
    · cases i with
      | zero =>
        cases (show some (some (LV.fro (.lst (ns.map .int)))) = some (some l) from e)
        exact ⟨.ref a, rfl, ⟨⟨a, _, rfl, hS, reps_ints ns⟩, rfl⟩, List.nodup_nil, fun a h => absurd h (by simp)⟩
      | succ i => simp at e
    · intro a ha; cases ha
    · obtain ⟨ls', e⟩ := pure_ ns hlen
      rw [e]
      intro v H' F' s'
      obtain ⟨v', hv, r⟩ := s'.fro (i := 0) rfl
      cases hv
      exact r
  · obtain ⟨_, _, _, _, _, _, _, _, _, _, _, _, z⟩ := h
    exact z
end Br
set_option maxHeartbeats 1000000
/-! BrS1: [f, g][i](..). -/
namespace Br
open PySem PySem.Spec PyProof.Rows L2

section
variable {C : Cb} {Φ : Nat → List LV → CR} {W : WX} {X : Cx} {a b c e : Expr} {es : List Expr} {pos p p1 p2 p3 lp sp : Pos} {x1 x2 y : Str} {k j1 j2 i : Nat} {ps1 ps2 : List Str} {irs : List Arg}
end
end Br
set_option maxHeartbeats 1000000
/-! BrF1: more operations: count, index, reversed slices, dict(..), bit_length. -/
namespace Br
open PySem PySem.Spec PyProof.Rows L2
section
variable {prog : Program} {w : World} {A : Around} {E : Value → Shared → Prop} {s : Shared}
theorem places_rev (n : Nat) : Builtin.Slice.slicePlaces ((n : Int) - 1) (-1) (-1) = n := by
  unfold Builtin.Slice.slicePlaces
  have h1 : ¬ ((-1 : Int) > 0) := by decide
  simp only [h1, if_false]
  by_cases h : (n : Int) - 1 > -1
  · have e : ((n : Int) - 1 - -1 - 1) / (- -1) + 1 = n := by
      rw [show (- -1 : Int) = 1 by decide, Int.ediv_one]
      omega
    simp only [h, if_true, e, Int.toNat_natCast]
  · simp only [h, if_false]
    omega
theorem pick_rev (xs : Array Value) : ((List.range xs.size).filterMap fun (m : Nat) => xs[(((xs.size : Int) - 1) + (m : Int) * (-1)).toNat]?).toArray = xs.toList.reverse.toArray := by
  have e : (fun (m : Nat) => xs[(((xs.size : Int) - 1) + (m : Int) * (-1)).toNat]?) = (fun k => xs[k]?) ∘ fun m => xs.size - 1 - m := by
    funext m
    have : (((xs.size : Int) - 1) + (m : Int) * (-1)).toNat = xs.size - 1 - m := by omega
    rw [this]
    rfl
  rw [e, ← List.filterMap_map, PySem.W.krv_range, List.filterMap_reverse, PySem.W.krv_all]
theorem sliceApplied_rev {sl : Addr} {vl vu vs : Value} {n : Nat} {Q : Int × Int × Nat → Shared → Prop} (hs : s.heap.IsSliceOf sl vl vu vs) (pl : IsPart vl none) (pu : IsPart vu none) (ps : IsPart vs (some (-1)))
    (h : Q ((n : Int) - 1, -1, n) s) : wpAny (model prog w) A (Builtin.Slice.sliceApplied (.ref sl) (pure (n : Int))) Q E s := by
  obtain ⟨os, hos, hcs, hds⟩ := id hs
  unfold Builtin.Slice.sliceApplied Builtin.Slice.sliceFields
  refine wpAny_bind (wpAny_bind (wpAny_field hos hds (x := vl) rfl (wpAny_bind (wpAny_field hos hds (x := vu) rfl (wpAny_bind (wpAny_field hos hds (x := vs) rfl (wpAny_pure ?_)))))))
  refine wpAny_bind (HT.slicePart_ ps ?_)
  show wpAny _ _ (if ((-1 : Int) == 0) = true then _ else _) _ _ s
  rw [if_neg (by decide)]
  refine wpAny_bind (HT.slicePart_ pl (wpAny_bind (HT.slicePart_ pu (wpAny_bind (wpAny_pure ?_)))))
  show wpAny _ _ (pure ((n : Int) - 1, (-1 : Int), Builtin.Slice.slicePlaces ((n : Int) - 1) (-1) (-1))) _ _ s
  rw [places_rev]
  exact wpAny_pure h
theorem getItem_tuple_rev {t sl : Addr} {items : Array Value} {vl vu vs : Value} {Q : Value → Shared → Prop} (ht : IsTup s.heap t items) (hs : s.heap.IsSliceOf sl vl vu vs) (pl : IsPart vl none) (pu : IsPart vu none) (ps : IsPart vs (some (-1)))
    (h : Q (.ref s.heap.objs.size) { s with heap := s.heap.push { cls := .type "tuple", data := .seq items.toList.reverse.toArray } })
    (hsz : items.size ≤ sizeLine) : wpAny (model prog w) A (getItem (.ref t) (.ref sl)) Q E s := by
  have htake : sizeOk (.seq items.toList.reverse.toArray) := by
    show items.toList.reverse.toArray.size ≤ sizeLine
    rw [List.size_toArray, List.length_reverse, Array.length_toList]
    omega
  obtain ⟨os, hos, hcs, hds⟩ := id hs
  have hTs : s.TypeIs (.ref sl) "slice" := ⟨os, hos, hcs⟩
  unfold getItem
  try with_reducible refine wpAny_holding ?_
  first | refine wpAny_bind (wpAny_pure ?_) | skip
  refine wpAny_bind (wpAny_sequenceKey ht.typeIs (by decide) ?_)
  refine wpAny_bind (wpAny_callSpecial?_slot (name := Str.ofString "__getitem__") ht.typeIs PyProof.Rows.slot_tuple_getitem
    (wpAny_call_entry PyProof.Rows.slot_tuple_getitem ht.typeIs entry_tuple_getitem ?_ (args_tuple_getitem _ _)))
  show wpAny _ _ (Builtin.Tuple.tupleItemsOf (.ref t) >>= _) _ _ s
  refine wpAny_bind (tupleItemsOf_ ht ?_)
  refine wpAny_bind (wpAny_typeOf hTs ?_)
  rw [if_pos (by decide)]
  refine wpAny_bind (sliceApplied_rev hs pl pu ps ?_)
  have hno : ¬ ((((items.size : Int) - 1) == 0 && (-1 : Int) == 1 && items.size == items.size) = true) := by
    intro q
    rw [Bool.and_eq_true, Bool.and_eq_true] at q
    exact absurd q.1.2 (by decide)
  show wpAny _ _ (if (((items.size : Int) - 1) == 0 && (-1 : Int) == 1 && items.size == items.size) = true then _ else _) _ _ s
  rw [if_neg hno, pick_rev]
  first
    | exact wpAny_bind (m := Builtin.Tuple.tupleExact _) (wpAny_newObj_type (wpAny_pure ⟨_, rfl, wpAny_pure h⟩) htake)
    | exact wpAny_bind (m := Builtin.Tuple.tupleExact _) (wpAny_newObj_type (wpAny_bind (wpAny_pure (wpAny_pure ⟨_, rfl, wpAny_pure h⟩))) htake)
    | exact wpAny_bind (wpAny_bind (m := Builtin.Tuple.tupleExact _) (wpAny_newObj_type (wpAny_pure (wpAny_pure ⟨_, rfl, wpAny_pure h⟩)) htake))
    | exact wpAny_bind (wpAny_bind (m := Builtin.Tuple.tupleExact _) (wpAny_newObj_type (wpAny_pure ⟨_, rfl, wpAny_pure h⟩) htake))
end
section
variable {X : Cx}
/-- xs[::-1] of a list or a tuple -/
theorem pe_revA {e : Expr} {te : TE} {k : Nat} {p1 p2 p3 pos : Pos} (he : PE X e te) : PE X (.Subscript e (.Slice none none (some (.UnaryOp .USub (.Constant (.int 1) k p1) p2)) p3) pos)
    (fun σ H Q => te σ H fun x H1 => (∃ a xs, x = .ref a ∧ SqL X.K H1 a xs ∧ ∀ p, H1 p = none → Q (.ref p) (upd H1 p (.lst xs.reverse))) ∨ (∃ a xs, x = .ref a ∧ SqT X.K H1 a xs ∧ ∀ p, H1 p = none → Q (.ref p) (upd H1 p (.tup xs.reverse)))) := by
  refine ⟨fun pins s σ H Q I h => ?_⟩
  refine Subscript_ (thn (he.run pins s σ H _ I h) fun v s1 ⟨x, H1, I1, r1, q1⟩ => ?_)
  obtain ⟨a, ex⟩ : ∃ a, x = .ref a := by rcases q1 with ⟨a, _, ex, _⟩ | ⟨a, _, ex, _⟩ <;> exact ⟨a, ex⟩
  subst ex
  cases r1
  have hst : PO X (some (.UnaryOp .USub (.Constant (.int 1) k p1) p2)) (tPart (tUn (rU fun i => .int (-i)) (tC (.int 1)))) := po_some (pe_un un_neg pe_int)
  refine wpAny_Slice (thn (po_none.run pins s1 σ H1 (fun o H2 => o = none ∧ H2 = H1) I1 ⟨rfl, rfl⟩) fun vl s2 ⟨l, H2, I2, pl, el, e2⟩ => ?_)
  subst el e2
  refine thn (po_none.run pins s2 σ H2 (fun o H3 => o = none ∧ H3 = H2) I2 ⟨rfl, rfl⟩) fun vu s3 ⟨u, H3, I3, pu, eu, e3⟩ => ?_
  subst eu e3
  refine thn (hst.run pins s3 σ H3 (fun o H4 => o = some (-1) ∧ H4 = H3) I3 ⟨1, rfl, -1, rfl, rfl, rfl⟩) fun vs s4 ⟨o, H4, I4, ps, eo, e4⟩ => ?_
  subst eo e4
  have I5 : Inv X pins σ H4 { s4 with heap := s4.heap.push { cls := .type "slice", data := .fields #[vl, vu, vs] } } := I4.kept (t' := s4.toks) fun b ob q => Heap.get?_push_of_some _ q
  rcases q1 with ⟨a', xs, ex, hx, q⟩ | ⟨a', xs, ex, hx, q⟩
  · cases ex
    obtain ⟨its, r, ht, hz⟩ := I5.list hx
    have hlen := r.length
    show wpAny (model X.prog X.w) X.A (subscriptTail e (.Slice none none (some (.UnaryOp .USub (.Constant (.int 1) k p1) p2)) p3) (.ref a) (.ref s4.heap.objs.size)) (EP X pins σ Q) X.xe { s4 with heap := s4.heap.push { cls := .type "slice", data := .fields #[vl, vu, vs] } }
    refine tail_any (ops := [.ref a, .ref s4.heap.objs.size]) ht.isList.typeIs (PySem.slot_list_getitem.lookup) ?_ (by with_unfolding_all rfl)
    refine wpAny_getItem_list_slice ht.isList (Heap.IsSliceOf.new _ vl vu vs) pl pu ps (by decide) ?_ (by rw [List.size_toArray]; omega)
    rw [PySem.W.krv_pick]
    refine ⟨.ref _, _, I5.laid (t' := s4.toks) (o := .lst xs.reverse) (fun b ob q => Heap.get?_push_of_some _ q) (Nat.le_refl _) ?_, rfl, q _ (I5.hok.fresh (Nat.le_refl _))⟩
    exact ⟨by rw [List.length_reverse]; exact hz, _, 0, r.reverse, Heap.get?_push_size _ rfl⟩
  · cases ex
    obtain ⟨its, r, ht, hz⟩ := I5.tuple hx
    have hlen := r.length
    show wpAny (model X.prog X.w) X.A (subscriptTail e (.Slice none none (some (.UnaryOp .USub (.Constant (.int 1) k p1) p2)) p3) (.ref a) (.ref s4.heap.objs.size)) (EP X pins σ Q) X.xe { s4 with heap := s4.heap.push { cls := .type "slice", data := .fields #[vl, vu, vs] } }
    refine tail_any (ops := [.ref a, .ref s4.heap.objs.size]) ht.typeIs PyProof.Rows.slot_tuple_getitem.lookup ?_ (by with_unfolding_all rfl)
    refine getItem_tuple_rev ht (Heap.IsSliceOf.new _ vl vu vs) pl pu ps ?_ (by rw [List.size_toArray]; omega)
    refine ⟨.ref _, _, I5.laid (t' := s4.toks) (o := .tup xs.reverse) (fun b ob q => Heap.get?_push_of_some _ q) (Nat.le_refl _) ?_, rfl, q _ (I5.hok.fresh (Nat.le_refl _))⟩
    exact ⟨by rw [List.length_reverse]; exact hz, _, r.reverse, _, Heap.get?_push_size _ rfl, rfl, _, rfl⟩
end

section
variable {X : Cx}
theorem count_ds (d : PyData) : ∀ l : List PV, (PV.toDs l).countP (fun z => PyData.eqv z d) = l.countP fun z => PyData.eqv z.toD d
  | [] => rfl
  | p :: l => by
    rw [PV.toDs, List.countP_cons, List.countP_cons, count_ds d l]
def rCntDT (K : PySem.W.Frag) : V → List V → Hp → VK → Prop := fun x xs H Q => ∃ (a : Addr) (y : V) (d : PyData) (ds : List PyData), x = V.ref a ∧ xs = [y] ∧ Dp K H (V.ref a) (.tuple ds) ∧ Dp K H y d ∧
  SeqAt.shaped (.list ds) = true ∧ SeqAt.shaped d = true ∧ Q (.int (ds.countP fun z => PyData.eqv z d : Nat)) H
theorem mt_tcntD (hu : X.A.units + 65 < cLine) : MtR X "tuple.count" (rCntDT X.K) := by
  intro pins s σ H x xs v us Q I rx rxs h
  obtain ⟨a, y, d, ds, rfl, rfl, hl, hy, sl, sd, q⟩ := h
  cases rx
  cases rxs with
  | cons ry rt =>
    rename_i uy ut
    cases rt
    obtain ⟨bs, r1⟩ := Dp.reads I d y uy hy ry
    have hxs : PyData.canLayAll0 ds = true := SeqAt.canLay_of_shaped sl
    have hroom : X.A.units + 1 + min (PyData.depthAll ds) d.depth < cLine := room_in_shaped sd hu
    cases hl with
    | tup hs ha =>
      obtain ⟨its, rv, ⟨⟨cls, dd, data, sls⟩, ho, hc, n, hdt⟩, _⟩ := I.tuple hs
      simp only at hc hdt
      subst hc hdt
      obtain ⟨as, h4⟩ := Dp.readsAll I ds _ its ha rv
      have hmap : its.map (SeqAt.readOf s.heap) = ds := SeqAt.readsAll_map ds its as hxs h4
      have hcount : its.toArray.toList.countP (fun u => PyData.eqv (SeqAt.readOf s.heap u) d) = ds.countP fun z => PyData.eqv z d := by
        rw [← hmap, List.countP_map]
        rfl
      refine call_meets PySem.F.slot_tuple_count ⟨_, ho, rfl⟩ PySem.F.entry_tuple_count (PySem.F.args_tuple_count_2 _ _)
        (SeqAt.tuple_countAt a its.toArray n dd sls uy (fun u => PyData.eqv (SeqAt.readOf s.heap u) d)) ⟨ho, SeqAt.items_eqAt (vs := its.toArray) (show ReadsAll s.heap its.toArray.toList ds as from h4) r1 hxs (SeqAt.canLay_of_shaped sd) hroom, ?_⟩
      rw [hcount]
      exact ⟨.int (ds.countP fun z => PyData.eqv z d : Nat), H, I.tok _, ⟨_, rfl⟩, q⟩
theorem cnt_some {l : List PV} {a r : PV} (h : cntP l a = some r) : (PV.lst l).isD 60 = true ∧ a.isD 60 = true ∧ r = .int (l.countP fun z => eqP z a : Nat) := by
  unfold cntP at h
  split at h
  · rename_i hc; cases h; exact ⟨hc.1, hc.2, rfl⟩
  · cases h
theorem rOp_1 {K : PySem.W.Frag} {o : Op} {x : V} {H : Hp} {Q : VK} (h : rOp K o [x] H Q) (hr : o.raw = false := by rfl) : ∃ F p r, Same F H ∧ RepB K F H p x ∧ opSem o [p] = some r ∧ ∀ v H', ResR K F H o.new r v H' → Q v H' := by
  obtain ⟨F, ps, r, e, hb, ho, q⟩ := h
  obtain ⟨p, rfl, h1⟩ := hb.one hr
  exact ⟨F, p, r, e, h1, ho, q⟩
theorem MtR.imp {id : String} {r r' : V → List V → Hp → VK → Prop} (h : MtR X id r) (i : ∀ x xs H Q, r' x xs H Q → r x xs H Q) : MtR X id r' :=
  fun pins s σ H x xs v us Q I rx rxs q => h pins s σ H x xs v us Q I rx rxs (i x xs H Q q)
theorem tcnt_ok {K : PySem.W.Frag} {x y : V} {H : Hp} {Q : VK} (h : rOp K .tcnt [x, y] H Q) : rCntDT K x [y] H Q := by
  obtain ⟨F, ps, r, e, hb, ho, q⟩ := h
  obtain ⟨p, t, rfl, h1, h2⟩ := hb.twoR
  have h2 := h2.toB
  cases p with
  | xt l =>
    obtain ⟨d1, d2, rfl⟩ := cnt_some (show cntP l t = some r from ho)
    have d1' : (PV.xt l).isD 60 = true := by
      unfold PV.isD at d1 ⊢
      exact d1
    have r1 := Rep.dp 60 _ _ d1' (RepB.rep e (show RepB K F H (.xt l) x from h1))
    have r2 := Rep.dp 60 _ _ d2 (h2.rep e)
    unfold PV.toD at r1
    obtain ⟨a, xs, o, rfl, _⟩ := h1
    refine ⟨a, y, _, _, rfl, rfl, r1, r2, isD_shape d1, shaped_d d2, ?_⟩
    rw [count_ds]
    exact q _ _ .int
  | _ => cases ho
end

section
variable {C : Cb} {Φ : Nat → List LV → CR} {W : WX} {X : Cx} {a b c e : Expr} {es : List Expr} {pos p : Pos} {x : Str} {ia ib ic : Arg}
theorem typ_x {X : Cx} {pins : List (Addr × Obj)} {σ : L2.St} {H F : Hp} {s : Shared} {a : Addr} {xs : List V} {o : Obj} (I : Inv X pins σ H s) (e : Same F H) (h : F a = some (.frz o (.tup xs))) (hd : o.dict = none) : s.TypeIs (.ref a) "tuple" ∧ ∀ b, Value.ref a = Value.ref b → ∃ o, s.heap.get? b = some o ∧ o.dict = none := by
  obtain ⟨h1, h2⟩ := I.hok a _ (e _ _ h)
  obtain ⟨_, its, _, ob, h3, h4, _⟩ := h2
  rw [h1] at h3
  cases h3
  exact ⟨⟨o, h1, h4⟩, fun b hb => by cases hb; exact ⟨o, h1, hd⟩⟩
/-- t.count(x), t a tuple whose object is known -/
theorem m_tcnt (o : XO X C) {apos cpos : Pos} (ha : PE X a (tA1 C Φ W ia)) (hb : PE X b (tA1 C Φ W ib)) (hs : starEach [b] X.env = (false, eval b X.env) :: starEach [] X.env := by rfl)
    (hbase : attributeBase a "count" X.env (eval a X.env) = eval a X.env := by rfl)
    (hfew : ((backTo cpos (starEach [b] X.env)).all (fun x => !x.1) && (backToKw cpos (keywordEach [] X.env)).all (fun x => x.1.isSome)
      && decide (([b] : List Expr).length + ([] : List Keyword).length + (if ([] : List Keyword).isEmpty then 0 else 1) < 30)) = true := by rfl)
    (hline : (apos.endLine == cpos.line) = true := by rfl) : PE X (.Call (.Attribute a "count" apos) [b] [] cpos) (tM C Φ W .tcnt ia [ib]) := by
  refine ⟨fun pins s σ H Q I h => ?_⟩
  refine wpAny_Call_method_late hbase hfew hline rfl (thn (ha.run pins s σ H _ I h) fun v s1 ⟨x, H1, I1, r1, ⟨F0, p0, e0, hrc, hp0⟩, q1⟩ => ?_)
  have hpa : PA X [b] (tCons (tA1 C Φ W ib) tNil) := pa_cons hb pa_nil hs
  have q2 : tA1 C Φ W ib σ H1 fun v H2 => tAs C Φ W [] σ H2 fun vs H3 => rOp C.K .tcnt (x :: v :: vs) H3 Q := tAs_cons q1
  have hA := hpa.run cpos pins s1 σ H1 (fun vs H2 => ∃ y, vs = [y] ∧ rOp X.K .tcnt [x, y] H2 Q) I1 (by
    refine tA1.imp q2 fun y H2 k => ⟨y, rfl, ?_⟩
    rw [← o.K]
    exact tAs_nil k)
  cases p0 with
  | xt l0 =>
    obtain ⟨a0, xs0, o0, rfl, hf0, hd0, _⟩ := hp0
    cases r1
    obtain ⟨t1, t2⟩ := typ_x I1 e0 hf0 hd0
    refine ⟨"tuple", "tuple.count", PySem.F.plainAttrs_tuple, PySem.F.slot_tuple_count, PySem.F.type_tuple_count, t1, t2, ?_⟩
    rw [hs] at hA ⊢
    refine Calls.callWith_builtin rfl (Calls.evalArgs_plain ?_)
    exact thn hA fun us s2 ⟨vs, H2, I2, r2, y, hy, k2⟩ => by
      subst hy
      exact mt_tcntD (un65 o) pins s2 σ H2 (.ref a0) [y] _ us Q I2 rfl r2 (tcnt_ok k2)
  | _ => cases hrc
/-- n.bit_length() -/
theorem o_bits {apos cpos : Pos} (ha : PE X a (tA1 C Φ W ia)) (hbase : attributeBase a "bit_length" X.env (eval a X.env) = eval a X.env := by rfl) (hline : (apos.endLine == cpos.line) = true := by rfl) : PE X (.Call (.Attribute a "bit_length" apos) [] [] cpos) (tO C Φ W .bits [ia]) :=
  (pe_bits ha hbase hline).weak fun σ H Q q => (tO_1 q).imp fun x H1 k => by
    obtain ⟨F, p, r, e, h1, ho, q⟩ := rOp_1 k
    cases p with
    | int i =>
      cases ho
      exact ⟨i, h1, q _ _ .int⟩
    | _ => cases ho
/-- l[::-1] -/
theorem o_rev {k : Nat} {p1 p2 p3 : Pos} (o : XO X C) (ha : PE X a (tA1 C Φ W ia)) : PE X (.Subscript a (.Slice none none (some (.UnaryOp .USub (.Constant (.int 1) k p1) p2)) p3) pos) (tO C Φ W .rev [ia]) :=
  (pe_revA ha).weak fun σ H Q q => (tO_1 q).imp fun x H1 k => by
    obtain ⟨F, p, r, e, h1, ho, q⟩ := rOp_1 k
    cases p with
    | lst l =>
      cases ho
      obtain ⟨a, xs, rfl, h2, h3⟩ := h1
      exact .inl ⟨a, xs, rfl, by rw [← o.K]; exact h2.sql, fun p hp => q _ _ (.lst hp h3.reverse)⟩
    | tup l =>
      cases ho
      obtain ⟨a, xs, rfl, h2, h3⟩ := h1
      exact .inr ⟨a, xs, rfl, by rw [← o.K]; exact Same.sqt e h2, fun p hp => q _ _ (.tup hp h3.reverse)⟩
    | _ => cases ho
end
end Br
set_option maxHeartbeats 1000000
/-! BrF2: sorted, min, max of data. -/
namespace Br
open PySem PySem.Spec PyProof.Rows L2

section
variable {X : Cx}
theorem map_fst_zip' {α β : Type} : ∀ {l : List α} {m : List β}, l.length = m.length → (l.zip m).map (·.1) = l
  | [], _, _ => rfl
  | a :: l, [], h => by cases h
  | a :: l, b :: m, h => by
    rw [List.zip_cons_cons, List.map_cons, map_fst_zip' (by simpa using h)]
theorem each_zip {K : PySem.W.Frag} {F : Hp} : ∀ {l : List PV} {xs : List V} {its : List Value}, Reps K F l xs → Vals xs its → PySem.W.EachIs (fun v (b : PV × V) => RelV b.2 v ∧ Rep K F b.1 b.2) its (l.zip xs)
  | [], xs, its, h, r => by
    have h0 : xs = [] := h
    subst h0
    cases r
    exact .nil
  | p :: l, xs, its, h, r => by
    obtain ⟨x, xr, rfl, h1, h2⟩ := h
    cases r with
    | cons rx rr => exact .cons ⟨rx, h1⟩ (each_zip h2 rr)
theorem each_out {K : PySem.W.Frag} {F : Hp} : ∀ {out : List Value} {bs : List (PV × V)}, PySem.W.EachIs (fun v (b : PV × V) => RelV b.2 v ∧ Rep K F b.1 b.2) out bs → Vals (bs.map (·.2)) out ∧ Reps K F (bs.map (·.1)) (bs.map (·.2))
  | _, _, .nil => ⟨.nil, rfl⟩
  | _, _, .cons h t => by
    obtain ⟨h1, h2⟩ := each_out t
    exact ⟨.cons h.1 h1, .cons h.2 h2⟩
theorem each_mem2 {α β : Type} {R S : α → β → Prop} : ∀ {as : List α} {bs : List β}, PySem.W.EachIs R as bs → (∀ a b, b ∈ bs → R a b → S a b) → PySem.W.EachIs S as bs
  | _, _, .nil, _ => .nil
  | _, _, .cons h t, i => .cons (i _ _ (by simp) h) (each_mem2 t fun a b hb => i a b (by simp [hb]))
theorem isD_mem {l : List PV} {n : Nat} (h : (PV.lst l).isD (n + 1) = true) {p : PV} (hp : p ∈ l) : p.isD n = true := by
  unfold PV.isD at h
  exact List.all_eq_true.mp h p hp
theorem isD_depth : ∀ (n : Nat) (p : PV), p.isD n = true → p.toD.depth ≤ n
  | _, .non, _ => by simp [PV.toD, PyData.depth]
  | _, .bl _, _ => by simp [PV.toD, PyData.depth]
  | _, .int _, _ => by simp [PV.toD, PyData.depth]
  | _, .str _, _ => by simp [PV.toD, PyData.depth]
  | n, .ty _, _ => by simp [PV.toD, PyData.depth]
  | n, .exc _, _ => by simp [PV.toD, PyData.depth]
  | n, .dK _ _, _ => by simp [PV.toD, PyData.depth]
  | n, .dT _ _, _ => by simp [PV.toD, PyData.depth]
  | n, .dX _ _, _ => by simp [PV.toD, PyData.depth]
  | n, .obj _ _ _, _ => by simp [PV.toD, PyData.depth]
  | 0, .tup l, h => by simp [PV.isD] at h
  | 0, .lst l, h => by simp [PV.isD] at h
  | 0, .xt l, h => by simp [PV.isD] at h
  | n + 1, .tup l, h => by
    unfold PV.isD at h
    have := all_depth n l h
    simp only [PV.toD, PyData.depth]
    omega
  | n + 1, .xt l, h => by
    unfold PV.isD at h
    have := all_depth n l h
    simp only [PV.toD, PyData.depth]
    omega
  | n + 1, .gt l, h => by
    unfold PV.isD at h
    have := all_depth n l h
    simp only [PV.toD, PyData.depth]
    omega
  | 0, .gt l, h => by simp [PV.isD] at h
  | n + 1, .lst l, h => by
    unfold PV.isD at h
    have := all_depth n l h
    simp only [PV.toD, PyData.depth]
    omega
where all_depth (n : Nat) : ∀ l : List PV, l.all (PV.isD n) = true → PyData.depthAll (PV.toDs l) ≤ n
  | [], _ => by simp [PV.toDs, PyData.depthAll]
  | p :: l, h => by
    rw [List.all_cons, Bool.and_eq_true] at h
    have h1 := isD_depth n p h.1
    have h2 := all_depth n l h.2
    simp only [PV.toDs, PyData.depthAll]
    omega
theorem toDs_map : ∀ l : List PV, PV.toDs l = l.map PV.toD
  | [] => rfl
  | p :: l => by rw [PV.toDs, toDs_map l]; rfl
/-- sorted(l) of data -/
theorem cr_sortX (hu : X.A.units + 131 < cLine) : CallR X (.builtin "sorted") (fun xs H Q => ∃ F x l, Same F H ∧ xs = [x] ∧ RepB X.K F H (.lst l) x ∧ sortOk l = true ∧ ∀ v H', ResR X.K F H true (.lst (sortD l)) v H' → Q v H') := by
  intro pins s σ H vs us Q I r h
  obtain ⟨F, x, l, eF, rfl, hb, hok, q⟩ := h
  obtain ⟨a, xs, rfl, hs, hr⟩ := hb
  obtain ⟨its, rv, hl, hz⟩ := I.list hs.sql
  rw [Vals.ref1 r]
  unfold sortOk at hok
  simp only [Bool.and_eq_true] at hok
  obtain ⟨⟨⟨hd, hal⟩, hk⟩, hlim⟩ := hok
  have hlen : l.length = xs.length := hr.length
  let bs := l.zip xs
  have hbl : bs.length = l.length := by simp [bs, hlen]
  have hfst : bs.map (·.1) = l := map_fst_zip' hlen
  have hmem : ∀ b ∈ bs, b.1 ∈ l := fun b hb => (List.of_mem_zip hb).1
  have e := each_zip hr rv
  have er : PySem.W.EachIs (fun v (b : PV × V) => ∃ as, Reads s.heap v (b.1.toD) as) its bs := each_mem2 e fun v b hb hR =>
    Dp.reads I _ b.2 v (Rep.dp0 59 _ _ (isD_mem (n := 59) hd (hmem b hb)) (hR.2.mono eF)) hR.1
  have hmD : ∀ d, d ∈ bs.map (fun b => b.1.toD) → ∃ p ∈ l, d = p.toD := fun d hd => by
    obtain ⟨b, hb, rfl⟩ := List.mem_map.mp hd
    exact ⟨b.1, hmem b hb, rfl⟩
  have hall : PySem.W.AllAlike (bs.map fun b => b.1.toD) := fun d hd d' hd' => by
    obtain ⟨p, hp, rfl⟩ := hmD d hd
    obtain ⟨p', hp', rfl⟩ := hmD d' hd'
    exact List.all_eq_true.mp (List.all_eq_true.mp hal p hp) p' hp'
  have hsrt : PySem.W.Sortable (bs.map fun b => b.1.toD) := by
    rcases Bool.or_eq_true_iff.mp hk with h | h
    · refine .inl fun d hd => ?_
      obtain ⟨p, hp, rfl⟩ := hmD d hd
      have h1 := List.all_eq_true.mp h p hp
      cases p with
      | tup m => cases m with
        | nil => cases h1
        | cons y m => exact ⟨y.toD, PV.toDs m, by rw [PV.toD, PV.toDs]⟩
      | xt m => cases m with
        | nil => cases h1
        | cons y m => exact ⟨y.toD, PV.toDs m, by rw [PV.toD, PV.toDs]⟩
      | _ => cases h1
    · refine .inr fun d hd' => ?_
      obtain ⟨p, hp, rfl⟩ := hmD d hd'
      have h1 := List.all_eq_true.mp h p hp
      have h2 := isD_mem (n := 59) hd hp
      cases p with
      | non => cases h1
      | tup m => cases h1
      | bl b => exact ⟨by simp [PV.toD], by simp [PV.toD]⟩
      | int b => exact ⟨by simp [PV.toD], by simp [PV.toD]⟩
      | str b => exact ⟨by simp [PV.toD], by simp [PV.toD]⟩
      | lst b => exact ⟨by simp [PV.toD], by simp [PV.toD]⟩
      | xt b => cases h1
      | gt b => cases h1
      | _ => simp [PV.isD] at h2
  refine PySem.W.sorted_data (enc := fun b : PV × V => b.1.toD) (R := fun v (b : PV × V) => RelV b.2 v ∧ Rep X.K F b.1 b.2) hl.isList e er hall hsrt (by rw [hbl, hlen]; exact hz) (fun b hb => ?_) fun out hol hout => ?_
  · have h1 := isD_depth 59 _ (isD_mem (n := 59) hd (hmem b hb))
    omega
  · obtain ⟨v1, r1⟩ := each_out hout
    obtain ⟨ep, he'⟩ := PyProof.Rows.sortedAll_at s.heap its out.toArray
    have hst : (bs.mergeSort (PySem.W.dataLe false fun b : PV × V => b.1.toD)).map (·.1) = sortD l := by
      unfold sortD
      exact (List.map_mergeSort (r := PySem.W.dataLe false fun b : PV × V => b.1.toD) (s := leD) (f := fun x : PV × V => x.1) (l := bs) (fun a _ b _ => rfl)).trans (by rw [hfst])
    have hylen : ((bs.mergeSort (PySem.W.dataLe false fun b : PV × V => b.1.toD)).map (·.2)).length ≤ sizeLine := by
      rw [List.length_map, (List.mergeSort_perm _ _).length_eq, hbl, hlen]
      exact hz
    rw [hst] at r1
    exact ⟨.ref _, upd H (s.heap.objs.size + 1) (.lst ((bs.mergeSort (PySem.W.dataLe false fun b : PV × V => b.1.toD)).map (·.2))), I.laid (t' := s.toks) (fun _ _ => PyProof.Rows.sortedAll_old) (Nat.le_succ _) ⟨hylen, out, ep, v1, he'⟩, rfl, q _ _ (.lst (I.hok.fresh (Nat.le_succ _)) r1)⟩
/-- sorted([x]) -/
theorem cr_sort1 : CallR X (.builtin "sorted") (fun xs H Q => ∃ F x p, Same F H ∧ xs = [x] ∧ RepB X.K F H (.lst [p]) x ∧ ∀ v H', ResR X.K F H true (.lst [p]) v H' → Q v H') := by
  intro pins s σ H vs us Q I r h
  obtain ⟨F, x, p, eF, rfl, hb, q⟩ := h
  obtain ⟨a, xs, rfl, hs, hr⟩ := hb
  obtain ⟨its, rv, hl, hz⟩ := I.list hs.sql
  rw [Vals.ref1 r]
  have h1 : xs.length = 1 := hr.length.symm
  have h2 : its.length = 1 := by rw [← rv.length]; exact h1
  refine SrtO.sorted_ord SrtO.swo_int hl.isList (by rw [← rv.length]; exact hz) (fun h3 h₁ a' _ _ => absurd h3 (by omega)) fun out h3 h4 => ?_
  have ho : out = its := by
    match its, h2 with
    | [z], _ => exact List.perm_singleton.mp h4.perm
  subst ho
  obtain ⟨ep, he'⟩ := PyProof.Rows.sortedAll_at s.heap out out.toArray
  exact ⟨.ref _, upd H (s.heap.objs.size + 1) (.lst xs), I.laid (t' := s.toks) (fun _ _ => PyProof.Rows.sortedAll_old) (Nat.le_succ _) ⟨hz, out, ep, rv, he'⟩, rfl, q _ _ (.lst (I.hok.fresh (Nat.le_succ _)) hr)⟩
theorem cr_sortedD (hc : X.calm = true) (hu : X.A.units + 131 < cLine) : CallR X (.builtin "sorted") (RCof X.K .sortedD) := by
  refine CallR.pick fun pins s σ H xs Q I h => ?_
  obtain ⟨F, ps, r, e, hb, ho, q⟩ := h
  have ho : sortedDP ps = some r := ho
  unfold sortedDP at ho
  split at ho
  · rename_i r' h1
    cases ho
    exact ⟨_, cr_sortedL hc, F, ps, r, e, hb, h1, q⟩
  · split at ho
    · rename_i l
      cases xs with
      | nil => obtain ⟨v, r, e, _⟩ := hb; cases e
      | cons x xr =>
        obtain ⟨v, rr, e1, h2, h3⟩ := hb
        cases e1
        have h3' : xr = [] := h3
        subst h3'
        unfold sortX at ho
        split at ho
        · cases ho
          exact ⟨_, cr_sort1, F, x, _, e, rfl, h2, q⟩
        · split at ho
          · rename_i hok
            cases ho
            exact ⟨_, cr_sortX hu, F, x, _, e, rfl, h2, hok, q⟩
          · cases ho
    · cases ho
theorem fold_toD (f : PyData → PyData → Bool) : ∀ (l : List PV) (x : PV), (l.foldl (fun a y => if f a.toD y.toD = true then y else a) x).toD = (l.map PV.toD).foldl (fun a y => if f a y = true then y else a) x.toD
  | [], x => rfl
  | y :: l, x => by
    rw [List.foldl_cons, List.map_cons, List.foldl_cons, fold_toD f l]
    congr 1
    split <;> rfl
theorem fold_mem (f : PV → PV → Bool) : ∀ (l : List PV) (x : PV), l.foldl (fun a y => if f a y = true then y else a) x ∈ x :: l
  | [], x => by simp
  | y :: l, x => by
    rw [List.foldl_cons]
    have h := fold_mem f l (if f x y = true then y else x)
    rcases List.mem_cons.mp h with h | h
    · rw [h]; split <;> simp
    · exact List.mem_cons_of_mem _ (List.mem_cons_of_mem _ h)
theorem isT_isD : ∀ (n : Nat) (p : PV), p.isT n = true → p.isD n = true
  | n, .non, _ => by cases n <;> simp [PV.isD]
  | n, .bl _, _ => by cases n <;> simp [PV.isD]
  | n, .int _, _ => by cases n <;> simp [PV.isD]
  | n, .str _, h => by
    cases n <;> (unfold PV.isT at h; unfold PV.isD; exact h)
  | n, .ty _, h => by cases n <;> simp [PV.isT] at h
  | n, .exc _, h => by cases n <;> simp [PV.isT] at h
  | n, .dK _ _, h => by cases n <;> simp [PV.isT] at h
  | n, .dT _ _, h => by cases n <;> simp [PV.isT] at h
  | n, .dX _ _, h => by cases n <;> simp [PV.isT] at h
  | n, .obj _ _ _, h => by cases n <;> simp [PV.isT] at h
  | n, .gt _, h => by cases n <;> simp [PV.isT] at h
  | n, .xt _, h => by cases n <;> simp [PV.isT] at h
  | 0, .tup l, h => by simp [PV.isT] at h
  | 0, .lst l, h => by simp [PV.isT] at h
  | n + 1, .tup l, h => by
    unfold PV.isT at h
    unfold PV.isD
    exact List.all_eq_true.mpr fun p hp => isT_isD n p (List.all_eq_true.mp h p hp)
  | n + 1, .lst l, h => by
    unfold PV.isT at h
    unfold PV.isD
    exact List.all_eq_true.mpr fun p hp => isT_isD n p (List.all_eq_true.mp h p hp)
mutual
theorem toD_inj : ∀ (n : Nat) (p q : PV), p.isT n = true → q.isT n = true → p.toD = q.toD → p = q
  | n, p, q, hp, hq, h => by
    match n, p, q, hp, hq, h with
    | _, .non, .non, _, _, _ => rfl
    | _, .bl a, .bl b, _, _, h => simp only [PV.toD, PyData.bool.injEq] at h; rw [h]
    | _, .int a, .int b, _, _, h => simp only [PV.toD, PyData.int.injEq] at h; rw [h]
    | _, .str a, .str b, _, _, h => simp only [PV.toD, PyData.str.injEq] at h; rw [h]
    | n + 1, .tup a, .tup b, hp, hq, h =>
      simp only [PV.toD, PyData.tuple.injEq] at h
      unfold PV.isT at hp hq
      rw [toDs_inj n a b hp hq h]
    | n + 1, .lst a, .lst b, hp, hq, h =>
      simp only [PV.toD, PyData.list.injEq] at h
      unfold PV.isT at hp hq
      rw [toDs_inj n a b hp hq h]
    | _, .non, .bl _, _, _, h => simp [PV.toD] at h
    | _, .non, .int _, _, _, h => simp [PV.toD] at h
    | _, .non, .str _, _, _, h => simp [PV.toD] at h
    | _, .non, .tup _, _, _, h => simp [PV.toD] at h
    | _, .non, .lst _, _, _, h => simp [PV.toD] at h
    | _, .bl _, .non, _, _, h => simp [PV.toD] at h
    | _, .bl _, .int _, _, _, h => simp [PV.toD] at h
    | _, .bl _, .str _, _, _, h => simp [PV.toD] at h
    | _, .bl _, .tup _, _, _, h => simp [PV.toD] at h
    | _, .bl _, .lst _, _, _, h => simp [PV.toD] at h
    | _, .int _, .non, _, _, h => simp [PV.toD] at h
    | _, .int _, .bl _, _, _, h => simp [PV.toD] at h
    | _, .int _, .str _, _, _, h => simp [PV.toD] at h
    | _, .int _, .tup _, _, _, h => simp [PV.toD] at h
    | _, .int _, .lst _, _, _, h => simp [PV.toD] at h
    | _, .str _, .non, _, _, h => simp [PV.toD] at h
    | _, .str _, .bl _, _, _, h => simp [PV.toD] at h
    | _, .str _, .int _, _, _, h => simp [PV.toD] at h
    | _, .str _, .tup _, _, _, h => simp [PV.toD] at h
    | _, .str _, .lst _, _, _, h => simp [PV.toD] at h
    | _, .tup _, .non, _, _, h => simp [PV.toD] at h
    | _, .tup _, .bl _, _, _, h => simp [PV.toD] at h
    | _, .tup _, .int _, _, _, h => simp [PV.toD] at h
    | _, .tup _, .str _, _, _, h => simp [PV.toD] at h
    | _, .tup _, .lst _, _, _, h => simp [PV.toD] at h
    | _, .lst _, .non, _, _, h => simp [PV.toD] at h
    | _, .lst _, .bl _, _, _, h => simp [PV.toD] at h
    | _, .lst _, .int _, _, _, h => simp [PV.toD] at h
    | _, .lst _, .str _, _, _, h => simp [PV.toD] at h
    | _, .lst _, .tup _, _, _, h => simp [PV.toD] at h
    | 0, .tup _, .tup _, hp, _, _ => simp [PV.isT] at hp
    | 0, .lst _, .lst _, hp, _, _ => simp [PV.isT] at hp
    | n, .ty _, _, hp, _, _ => cases n <;> simp [PV.isT] at hp
    | n, .xt _, _, hp, _, _ => cases n <;> simp [PV.isT] at hp
    | n, _, .xt _, _, hq, _ => cases n <;> simp [PV.isT] at hq
    | n, .exc _, _, hp, _, _ => cases n <;> simp [PV.isT] at hp
    | n, .dK _ _, _, hp, _, _ => cases n <;> simp [PV.isT] at hp
    | n, .dT _ _, _, hp, _, _ => cases n <;> simp [PV.isT] at hp
    | n, .dX _ _, _, hp, _, _ => cases n <;> simp [PV.isT] at hp
    | n, .obj _ _ _, _, hp, _, _ => cases n <;> simp [PV.isT] at hp
    | n, .gt _, _, hp, _, _ => cases n <;> simp [PV.isT] at hp
    | n, _, .ty _, _, hq, _ => cases n <;> simp [PV.isT] at hq
    | n, _, .exc _, _, hq, _ => cases n <;> simp [PV.isT] at hq
    | n, _, .dK _ _, _, hq, _ => cases n <;> simp [PV.isT] at hq
    | n, _, .dT _ _, _, hq, _ => cases n <;> simp [PV.isT] at hq
    | n, _, .dX _ _, _, hq, _ => cases n <;> simp [PV.isT] at hq
    | n, _, .obj _ _ _, _, hq, _ => cases n <;> simp [PV.isT] at hq
    | n, _, .gt _, _, hq, _ => cases n <;> simp [PV.isT] at hq
theorem toDs_inj : ∀ (n : Nat) (l m : List PV), l.all (PV.isT n) = true → m.all (PV.isT n) = true → PV.toDs l = PV.toDs m → l = m
  | _, [], [], _, _, _ => rfl
  | _, [], _ :: _, _, _, h => by simp [PV.toDs] at h
  | _, _ :: _, [], _, _, h => by simp [PV.toDs] at h
  | n, p :: l, q :: m, hl, hm, h => by
    rw [List.all_cons, Bool.and_eq_true] at hl hm
    simp only [PV.toDs, List.cons.injEq] at h
    rw [toD_inj n p q hl.1 hm.1 h.1, toDs_inj n l m hl.2 hm.2 h.2]
end
theorem reads_fun {h : Heap} {v : Value} {d d' : PyData} {as bs : List Addr} (r : Reads h v d as) (r' : Reads h v d' bs) (c : d.canLay0 = true) (c' : d'.canLay0 = true) : d = d' := by
  have h1 := SeqAt.readsAll_map [d] [v] _ (by simp [PyData.canLayAll0, c]) (.cons r .nil)
  have h2 := SeqAt.readsAll_map [d'] [v] _ (by simp [PyData.canLayAll0, c']) (.cons r' .nil)
  simpa using h1.symm.trans h2
theorem min_pick {h : Heap} {K : PySem.W.Frag} {F : Hp} {l : List PV} {xs : List V} {its : List Value} {r : PV} {i : Nat} {v : Value} {bs : List Addr} {d : PyData} (hr : Reps K F l xs) (rv : Vals xs its) (hd : l.all (PV.isT 59) = true)
    (hm : r ∈ l) (hv : its[i]? = some v) (er : r.toD = d) (rd : Reads h v d bs) (all : ∀ (p : PV) (x : V) (u : Value), p ∈ l → Rep K F p x → RelV x u → ∃ as, Reads h u p.toD as) : ∃ x, RelV x v ∧ Rep K F r x := by
  have hl : i < its.length := (List.getElem?_eq_some_iff.mp hv).1
  have hxl : i < xs.length := by rw [rv.length]; exact hl
  obtain ⟨p, hp, rp⟩ := hr.get' (List.getElem?_eq_getElem hxl)
  obtain ⟨u, hu, ru⟩ := rv.get (List.getElem?_eq_getElem hxl)
  rw [hv] at hu
  cases hu
  have hpm := List.mem_of_getElem? hp
  obtain ⟨as, r1⟩ := all p _ v hpm rp ru
  have dp := List.all_eq_true.mp hd p hpm
  have dr := List.all_eq_true.mp hd r hm
  subst er
  have e := reads_fun r1 rd (canLay_d 59 p (isT_isD _ _ dp)) (canLay_d 59 r (isT_isD _ _ dr))
  have e2 := toD_inj 59 p r dp dr e
  subst e2
  exact ⟨_, ru, rp⟩
theorem minOk_of {l : List PV} (h : minOk l = true) : l.all (PV.isT 59) = true ∧ l.all (PV.isD 59) = true ∧ PySem.W.AlikeAll (l.map PV.toD) := by
  unfold minOk at h
  simp only [Bool.and_eq_true] at h
  obtain ⟨⟨hT, hal⟩, hn⟩ := h
  have hd := isT_isD _ _ hT
  refine ⟨by unfold PV.isT at hT; exact hT, by unfold PV.isD at hd; exact hd, fun d h1 d' h2 => ?_, fun d h1 => ?_⟩
  · obtain ⟨p, hp, rfl⟩ := List.mem_map.mp h1
    obtain ⟨p', hp', rfl⟩ := List.mem_map.mp h2
    exact List.all_eq_true.mp (List.all_eq_true.mp hal p hp) p' hp'
  · obtain ⟨p, hp, rfl⟩ := List.mem_map.mp h1
    have h2 := isD_mem (n := 59) hd hp
    have h3 := List.all_eq_true.mp hn p hp
    cases p with
    | non => cases h3
    | bl b => simp [PV.toD]
    | int b => simp [PV.toD]
    | str b => simp [PV.toD]
    | lst b => simp [PV.toD]
    | tup b => simp [PV.toD]
    | xt b => simp [PV.toD]
    | gt b => simp [PV.toD]
    | _ => simp [PV.isD] at h2
/-- min(l), max(l) of data -/
theorem cr_minX (hc : X.calm = true) (hu : X.A.units + 131 < cLine) : CallR X (.builtin "min") (fun xs H Q => ∃ F x p l, Same F H ∧ xs = [x] ∧ RepB X.K F H (.lst (p :: l)) x ∧ minOk (p :: l) = true ∧ ∀ v, Rep X.K F (l.foldl (fun a y => if ltD y a = true then y else a) p) v → Q v H) := by
  intro pins s σ H vs us Q I r h
  obtain ⟨F, x, p, l, eF, rfl, hb, hok, q⟩ := h
  obtain ⟨a, xs, rfl, hs, hr⟩ := hb
  obtain ⟨its, rv, hl, hz⟩ := I.list hs.sql
  rw [Vals.ref1 r]
  obtain ⟨hT, hd, hal⟩ := minOk_of hok
  obtain ⟨as, h4⟩ := Dp.readsAll I _ _ its (Reps.dp 59 _ _ hd (Reps.mono eF hr)) rv
  rw [toDs_map] at h4
  have hdep : PyData.depthAll ((p :: l).map PV.toD) ≤ 59 := by rw [← toDs_map]; exact isD_depth.all_depth 59 _ hd
  refine PySem.W.min_list_data (x := p.toD) (xs := l.map PV.toD) (I.ok.hd hc) hl.isList (by simpa using h4) hal (by rw [List.map_cons] at hdep; omega) fun i v h' tk bs hv rd hk => ?_
  have ef : (l.foldl (fun a y => if ltD y a = true then y else a) p).toD = PySem.W.minD p.toD (l.map PV.toD) := fold_toD (fun a y => PySem.W.dataLt y a) l p
  obtain ⟨z, rz, hz2⟩ := min_pick hr rv hT (fold_mem (fun a y => ltD y a) l p) (by simpa using hv) ef rd (fun p' x' u hp' hx' hu' => by
    obtain ⟨as, r1⟩ := Dp.reads I _ x' u (Rep.dp0 59 _ _ (List.all_eq_true.mp hd p' hp') (hx'.mono eF)) hu'
    exact ⟨as, PyProof.Rows.Reads.keeps hk r1⟩)
  exact ⟨z, H, I.kept hk, rz, q z hz2⟩
theorem isT_of {h : Heap} {a : Addr} {its : Array Value} (x : IsTup h a its) : h.IsTuple a its := x
theorem cr_minXt (hc : X.calm = true) (hu : X.A.units + 131 < cLine) : CallR X (.builtin "min") (fun xs H Q => ∃ F x p l, Same F H ∧ xs = [x] ∧ RepB X.K F H (.tup (p :: l)) x ∧ minOk (p :: l) = true ∧ ∀ v, Rep X.K F (l.foldl (fun a y => if ltD y a = true then y else a) p) v → Q v H) := by
  intro pins s σ H vs us Q I r h
  obtain ⟨F, x, p, l, eF, rfl, hb, hok, q⟩ := h
  obtain ⟨a, xs, rfl, hs, hr⟩ := hb
  obtain ⟨its, rv, hl, hz⟩ := I.tuple (Same.sqt eF hs)
  rw [Vals.ref1 r]
  obtain ⟨hT, hd, hal⟩ := minOk_of hok
  obtain ⟨as, h4⟩ := Dp.readsAll I _ _ its (Reps.dp 59 _ _ hd (Reps.mono eF hr)) rv
  rw [toDs_map] at h4
  have hdep : PyData.depthAll ((p :: l).map PV.toD) ≤ 59 := by rw [← toDs_map]; exact isD_depth.all_depth 59 _ hd
  refine PySem.W.min_tuple_data (x := p.toD) (xs := l.map PV.toD) (I.ok.hd hc) (isT_of hl) (by simpa using h4) hal (by rw [List.map_cons] at hdep; omega) fun i v h' tk bs hv rd hk => ?_
  have ef : (l.foldl (fun a y => if ltD y a = true then y else a) p).toD = PySem.W.minD p.toD (l.map PV.toD) := fold_toD (fun a y => PySem.W.dataLt y a) l p
  obtain ⟨z, rz, hz2⟩ := min_pick hr rv hT (fold_mem (fun a y => ltD y a) l p) (by simpa using hv) ef rd (fun p' x' u hp' hx' hu' => by
    obtain ⟨as, r1⟩ := Dp.reads I _ x' u (Rep.dp0 59 _ _ (List.all_eq_true.mp hd p' hp') (hx'.mono eF)) hu'
    exact ⟨as, PyProof.Rows.Reads.keeps hk r1⟩)
  exact ⟨z, H, I.kept hk, rz, q z hz2⟩
theorem cr_minD (hc : X.calm = true) (hu : X.A.units + 131 < cLine) : CallR X (.builtin "min") (RCof X.K .minD) := by
  refine CallR.pick fun pins s σ H xs Q I h => ?_
  obtain ⟨F, ps, r, e, hb, ho, q⟩ := h
  have ho : minDP ps = some r := ho
  unfold minDP at ho
  split at ho
  · rename_i r' h1
    cases ho
    exact ⟨_, cr_minL hc, F, ps, r, e, hb, h1, q⟩
  · split at ho
    · rename_i p l _ _
      split at ho
      · rename_i hok
        cases ho
        obtain ⟨x, rfl, h2⟩ : ∃ x, xs = [x] ∧ RepB X.K F H (.lst (p :: l)) x := by
          obtain ⟨v, rr, rfl, h2, h3⟩ := hb
          exact ⟨v, by rw [show rr = [] from h3], h2⟩
        exact ⟨_, cr_minX hc hu, F, x, p, l, e, rfl, h2, hok, fun v hv => q v H (.any hv)⟩
      · cases ho
    · rename_i p l _ _
      split at ho
      · rename_i hok
        cases ho
        obtain ⟨x, rfl, h2⟩ : ∃ x, xs = [x] ∧ RepB X.K F H (.tup (p :: l)) x := by
          obtain ⟨v, rr, rfl, h2, h3⟩ := hb
          exact ⟨v, by rw [show rr = [] from h3], h2⟩
        exact ⟨_, cr_minXt hc hu, F, x, p, l, e, rfl, h2, hok, fun v hv => q v H (.any hv)⟩
      · cases ho
    · cases ho
end
section
variable {C : Cb} {Φ : Nat → List LV → CR} {W : WX} {X : Cx} {a b c e : Expr} {es : List Expr} {pos p : Pos} {x : Str} {ia ib ic : Arg}
theorem f_minD (o : XC X C) (hg : Gl X "min") (hm : X.mg "min" = none) (ha : PE X a (tA1 C Φ W ia)) (he : starEach [a] X.env = (false, eval a X.env) :: starEach [] X.env := by rfl) : PE X (.Call (.Name "min" p) [a] [] pos) (tO C Φ W .minD [ia]) := o_blt (cc o.toXO (cr_minD o.calm o.un)) hg hm boot_min (as1 ha he) (by decide) (by decide) he rfl
theorem f_sortedD (o : XC X C) (hg : Gl X "sorted") (hm : X.mg "sorted" = none) (ha : PE X a (tA1 C Φ W ia)) (he : starEach [a] X.env = (false, eval a X.env) :: starEach [] X.env := by rfl) : PE X (.Call (.Name "sorted" p) [a] [] pos) (tO C Φ W .sortedD [ia]) := o_blt (cc o.toXO (cr_sortedD o.calm o.un)) hg hm boot_sorted (as1 ha he) (by decide) (by decide) he rfl
theorem q_sl10 {p2 : Pos} (o : XO X C) (ha : PE X a (tA1 C Φ W ia)) (hb : PE X b (tA1 C Φ W ib)) : PE X (.Subscript a (.Slice (some b) none none p2) pos) (tO C Φ W (.slc true false) [ia, ib]) := o_sl10 o ha hb
theorem q_sl01 {p2 : Pos} (o : XO X C) (ha : PE X a (tA1 C Φ W ia)) (hb : PE X b (tA1 C Φ W ib)) : PE X (.Subscript a (.Slice none (some b) none p2) pos) (tO C Φ W (.slc false true) [ia, ib]) := o_sl01 o ha hb
end
end Br
set_option maxHeartbeats 1000000
/-! BrF3: x.pop(i), x.insert(i, e). -/
namespace Br
open PySem PySem.Spec PyProof.Rows L2
section
variable {C : Cb} {Φ : Nat → List LV → CR} {W : WX} {X : Cx} {a b c e f : Expr} {es : List Expr} {pos : Pos} {x : Str} {pr : List Nat} {n : Nat}
theorem reps_erase {K : PySem.W.Frag} {F : Hp} {l : List PV} {xs : List V} (k : Nat) (r : Reps K F l xs) : Reps K F (l.eraseIdx k) (xs.eraseIdx k) := by
  rw [List.eraseIdx_eq_take_drop_succ, List.eraseIdx_eq_take_drop_succ]
  exact (r.take k).append (r.drop (k + 1))
theorem st_popA {i : Nat} {ir : Ex} {apos cpos p : Pos} (hN : X.N[i]? = some x) (hv : Vis X.env.scope x) (he : PE X e (tE C Φ W ir))
    (hbase : attributeBase (.Name x p) "pop" X.env (eval (.Name x p) X.env) = eval (.Name x p) X.env := by rfl)
    (hfew : ((backTo cpos (starEach [e] X.env)).all (fun x => !x.1) && (backToKw cpos (keywordEach [] X.env)).all (fun x => x.1.isSome)
      && decide (([e] : List Expr).length + ([] : List Keyword).length + (if ([] : List Keyword).isEmpty then 0 else 1) < 30)) = true := by rfl)
    (hline : (apos.endLine == cpos.line) = true := by rfl) (hst : starEach [e] X.env = (false, eval e X.env) :: starEach [] X.env := by rfl)
    (hd : (x == ("__debug__" : Str)) = false := by decide) (hcd : (x == ("__classdict__" : Str)) = false := by decide)
    (hs : swapsWith (.Call (.Attribute (.Name x p) "pop" apos) [e] [] cpos) none pos.line X.env = pure false := by rfl) :
    PS X (.Expr (.Call (.Attribute (.Name x p) "pop" apos) [e] [] cpos) pos) (tS C Φ W pr n (.popA i ir)) :=
  (ps_expr (pe_bm PySem.F.plainAttrs_list PySem.F.slot_list_pop PySem.F.type_list_pop mt_popAt (pe_var hN hv hd hcd) (pa_cons he pa_nil hst) hbase hfew hline hst rfl) hs).weak fun D σ H q => by
    obtain ⟨ρ, F, s, q⟩ := q
    unfold exS at q
    by_cases ho : ownL ρ i = true
    case neg => rw [if_neg ho] at q; exact False.elim q
    rw [if_pos ho] at q
    obtain ⟨l0, hl0⟩ := ownL_at ho
    obtain ⟨a, ha, ⟨xs0, hH0, _⟩, _⟩ := s.ownAt hl0
    refine ⟨.ref a, ha, .inl ⟨rfl, xs0, .inl (.inl hH0)⟩, ρ, F, s, q.so.imp fun p ρ1 F1 H1 e1 s1 k1 v r => ?_⟩
    split at k1
    · rename_i l j hl
      split at k1
      · rename_i hlim
        obtain ⟨j0, j1, j2⟩ := hlim
        unfold at' at hl
        split at hl
        · rename_i l' hl'
          cases hl
          obtain ⟨a', ha', ⟨xs, hH, rr⟩, _⟩ := s1.ownAt hl'
          rw [ha] at ha'
          cases ha'
          have rv : v = .int j := r
          subst rv
          have hlen := rr.length
          obtain ⟨k, rfl⟩ := Int.eq_ofNat_of_zero_le j0
          have hk : k < xs.length := by omega
          have hix : seqIndex? (k : Int) xs.length = some k := by
            unfold seqIndex?
            have h1 : ¬ ((k : Int) < 0) := by omega
            have h3 : (k : Int) < (xs.length : Int) := by omega
            simp [h1, h3]
          unfold LIM at j2
          exact ⟨a, xs, (k : Int), k, xs[k], rfl, rfl, hH, by omega, by omega, hix, List.getElem?_eq_getElem hk, k1 F1 σ _ (Same.refl F1) Kp.refl (s1.write hl' ha ⟨xs.eraseIdx k, upd_same, reps_erase k rr⟩)⟩
        · cases hl
      · exact False.elim k1
    · exact False.elim k1
theorem st_insA {i : Nat} {ik ir : Ex} {apos cpos p : Pos} (hN : X.N[i]? = some x) (hv : Vis X.env.scope x) (hk : PE X f (tE C Φ W ik)) (he : PE X e (tE C Φ W ir))
    (hbase : attributeBase (.Name x p) "insert" X.env (eval (.Name x p) X.env) = eval (.Name x p) X.env := by rfl)
    (hfew : ((backTo cpos (starEach [f, e] X.env)).all (fun x => !x.1) && (backToKw cpos (keywordEach [] X.env)).all (fun x => x.1.isSome)
      && decide (([f, e] : List Expr).length + ([] : List Keyword).length + (if ([] : List Keyword).isEmpty then 0 else 1) < 30)) = true := by rfl)
    (hline : (apos.endLine == cpos.line) = true := by rfl) (hst : starEach [f, e] X.env = (false, eval f X.env) :: starEach [e] X.env := by rfl)
    (hst2 : starEach [e] X.env = (false, eval e X.env) :: starEach [] X.env := by rfl) (hpl : (backTo cpos (starEach [e] X.env)).any (·.1) = false := by rfl)
    (hd : (x == ("__debug__" : Str)) = false := by decide) (hcd : (x == ("__classdict__" : Str)) = false := by decide)
    (hs : swapsWith (.Call (.Attribute (.Name x p) "insert" apos) [f, e] [] cpos) none pos.line X.env = pure false := by rfl) :
    PS X (.Expr (.Call (.Attribute (.Name x p) "insert" apos) [f, e] [] cpos) pos) (tS C Φ W pr n (.insA i ik ir)) :=
  (ps_expr (pe_bm PySem.F.plainAttrs_list PySem.F.slot_list_insert PySem.F.type_list_insert mt_insert (pe_var hN hv hd hcd) (pa_cons hk (pa_cons he pa_nil hst2) hst) hbase hfew hline hst hpl) hs).weak fun D σ H q => by
    obtain ⟨ρ, F, s, q⟩ := q
    unfold exS at q
    by_cases ho : ownL ρ i = true
    case neg => rw [if_neg ho] at q; exact False.elim q
    rw [if_pos ho] at q
    obtain ⟨l0, hl0⟩ := ownL_at ho
    obtain ⟨a, ha, ⟨xs0, hH0, _⟩, _⟩ := s.ownAt hl0
    refine ⟨.ref a, ha, .inl ⟨rfl, xs0, .inl (.inl hH0)⟩, ρ, F, s, q.so.imp fun p ρ1 F1 H1 e1 s1 k1 v r => ?_⟩
    refine ⟨ρ1, F1, s1, k1.so.imp fun q ρ2 F2 H2 e2 s2 k2 w rw' => ?_⟩
    split at k2
    · rename_i l j hl
      split at k2
      · rename_i hlim
        obtain ⟨j0, j1, j2⟩ := hlim
        unfold at' at hl
        split at hl
        · rename_i l' hl'
          cases hl
          obtain ⟨a', ha', ⟨xs, hH, rr⟩, _⟩ := s2.ownAt hl'
          rw [ha] at ha'
          cases ha'
          have rv : v = .int j := r
          subst rv
          unfold LIM at j2
          have h5 : xs.take j.toNat ++ [w] ++ xs.drop j.toNat = xs.take j.toNat ++ w :: xs.drop j.toNat := by rw [List.append_assoc]; rfl
          exact ⟨a, xs, j, w, rfl, rfl, hH, by rw [← rr.length]; exact Nat.lt_of_lt_of_le j0 (lim_line (Nat.le_refl _)), j1, by omega, k2 F2 σ _ (Same.refl F2) Kp.refl (s2.write hl' ha ⟨_, upd_same, by rw [h5]; exact (rr.take j.toNat).append (.cons rw' (rr.drop j.toNat))⟩)⟩
        · cases hl
      · exact False.elim k2
    · exact False.elim k2
/-! the same as expressions -/
/-! {x: y} -/
end
end Br
set_option maxHeartbeats 1000000
/-! BrG1: an own value in front of a state is hidden while others are evaluated (groundwork for own temporaries as arguments). -/
namespace Br
open PySem PySem.Spec PyProof.Rows L2
section
variable {C : Cb} {F H : Hp} {ρ : Env} {σ : L2.St} {l : LV} {v : V}
theorem SR.hide (s : SR C F (some l :: ρ) (some v :: σ) H) : ∃ A : List Addr, SR ⟨C.K, H, F, A⟩ F ρ σ H ∧ ∀ F' ρ' H', SR ⟨C.K, H, F, A⟩ F' ρ' σ H' → SR C F' (some l :: ρ') (some v :: σ) H' := by
  obtain ⟨fp, h1, h2⟩ := s.own
  obtain ⟨A, hA⟩ : ∃ A : List Addr, ∀ a, a ∈ A ↔ ∃ i m, ρ[i]? = some (some m) ∧ a ∈ fp (i + 1) := by
    refine ⟨(List.range ρ.length).flatMap fun i => match ρ[i]? with
      | some (some _) => fp (i + 1)
      | _ => [], fun a => ?_⟩
    rw [List.mem_flatMap]
    constructor
    · rintro ⟨i, _, ha⟩
      split at ha
      · rename_i m hm
        exact ⟨i, m, hm, ha⟩
      · exact absurd ha (by simp)
    · rintro ⟨i, m, hm, ha⟩
      obtain ⟨hi, _⟩ := List.getElem?_eq_some_iff.mp hm
      refine ⟨i, List.mem_range.mpr hi, ?_⟩
      rw [hm]
      exact ha
  obtain ⟨v0, hv0, r0, nd0, q0⟩ := h1 0 l rfl
  have ev : v0 = v := by
    simp only [List.getElem?_cons_zero, Option.some.injEq] at hv0
    exact hv0.symm
  subst ev
  have oA : ∀ a ∈ A, C.O a := fun a ha => by
    obtain ⟨i, m, hm, hf⟩ := (hA a).mp ha
    obtain ⟨_, _, _, _, q⟩ := h1 (i + 1) m (by simpa using hm)
    exact (q a hf).2
  have nt : ∀ a ∈ fp 0, a ∉ A := fun a ha hb => by
    obtain ⟨i, m, hm, hf⟩ := (hA a).mp hb
    exact h2 0 (i + 1) l m (by omega) rfl (by simpa using hm) a ha hf
  refine ⟨A, ⟨s.le, Same.refl F, fun a o h _ => h, fun a n => .inl n, by simpa using s.len, fun i => fp (i + 1), fun i m hi => ?_, fun i j m k hij hi hj => h2 (i + 1) (j + 1) m k (by omega) (by simpa using hi) (by simpa using hj)⟩, fun F' ρ' H' s' => ?_⟩
  · obtain ⟨w, hw, r, nd, q⟩ := h1 (i + 1) m (by simpa using hi)
    exact ⟨w, by simpa using hw, r, nd, fun a ha => ⟨(q a ha).1, .inl ((hA a).mpr ⟨i, m, hi, ha⟩)⟩⟩
  · obtain ⟨gp, g1, g2⟩ := s'.own
    have e : Same F F' := s'.f0
    have kt : ∀ a ∈ fp 0, H' a = H a := fun a ha => by
      obtain ⟨o, ho⟩ := r0.there a ha
      rw [ho]
      exact s'.keep a o ho (nt a ha)
    have oC : ∀ a, Cb.O ⟨C.K, H, F, A⟩ a → C.O a := fun a h => by
      rcases h with h | h | ⟨ys, h⟩
      · exact oA a h
      · exact s.fresh h
      · exact s.oTup h
    have no : ∀ a ∈ fp 0, ¬ Cb.O ⟨C.K, H, F, A⟩ a := fun a ha h => by
      rcases h with h | h | ⟨ys, h⟩
      · exact nt a ha h
      · obtain ⟨o, ho⟩ := r0.there a ha
        have h : H a = none := h
        rw [ho] at h
        cases h
      · exact r0.noTup a ha ys h
    refine ⟨s'.le, s.f0.trans e, fun a o h0 hn => ?_, fun a n => ?_, by simp [s'.len], fun i => match i with | 0 => fp 0 | i + 1 => gp i, fun j m hj => ?_, fun j k m m' hjk hj hk => ?_⟩
    · refine s'.keep a o (s.keep a o h0 hn) fun ha => ?_
      rcases oA a ha with q | q | ⟨ys, q⟩
      · exact hn q
      · rw [h0] at q; cases q
      · obtain ⟨i, m, hi, hf⟩ := (hA a).mp ha
        obtain ⟨_, _, rl, _⟩ := h1 (i + 1) m (by simpa using hi)
        exact rl.noTup a hf ys (s.keep a _ q hn)
    · rcases s'.fo a n with q | q
      · exact s.fo a q
      · exact .inr (oC a q)
    · cases j with
      | zero =>
        simp only [List.getElem?_cons_zero, Option.some.injEq] at hj
        subst hj
        refine ⟨v0, rfl, r0.frame e kt, nd0, fun a ha => ⟨?_, (q0 a ha).2⟩⟩
        cases z : F' a with
        | none => rfl
        | some o =>
          rcases s'.fo a (by rw [z]; exact fun w => nomatch w) with q | q
          · exact absurd (q0 a ha).1 q
          · exact absurd q (no a ha)
      | succ j =>
        obtain ⟨w, hw, r, nd, q⟩ := g1 j m (by simpa using hj)
        exact ⟨w, by simpa using hw, r, nd, fun a ha => ⟨(q a ha).1, oC a (q a ha).2⟩⟩
    · cases j with
      | zero =>
        cases k with
        | zero => exact absurd rfl hjk
        | succ k =>
          intro a ha hb
          obtain ⟨_, _, _, _, q⟩ := g1 k m' (by simpa using hk)
          exact no a ha (q a hb).2
      | succ j =>
        cases k with
        | zero =>
          intro a ha hb
          obtain ⟨_, _, _, _, q⟩ := g1 j m (by simpa using hj)
          exact no a hb (q a ha).2
        | succ k => exact g2 j k m m' (by omega) (by simpa using hj) (by simpa using hk)
/-- a slot behind the first one is dropped -/
theorem SR.drop2 {x : Option LV} {y : Option LV} {a b : Option V} (s : SR C F (x :: y :: ρ) (a :: b :: σ) H) : SR C F (x :: ρ) (a :: σ) H := by
  obtain ⟨fp, h1, h2⟩ := s.own
  refine ⟨s.le, s.f0, s.keep, s.fo, by have := s.len; simp at this ⊢; exact this, fun i => match i with | 0 => fp 0 | i + 1 => fp (i + 2), fun j m hj => ?_, fun j k m m' hjk hj hk => ?_⟩
  · cases j with
    | zero => exact h1 0 m (by simpa using hj)
    | succ j =>
      obtain ⟨w, hw, r⟩ := h1 (j + 2) m (by simpa using hj)
      exact ⟨w, by simpa using hw, r⟩
  · cases j with
    | zero =>
      cases k with
      | zero => exact absurd rfl hjk
      | succ k => exact h2 0 (k + 2) m m' (by omega) (by simpa using hj) (by simpa using hk)
    | succ j =>
      cases k with
      | zero => exact h2 (j + 2) 0 m m' (by omega) (by simpa using hj) (by simpa using hk)
      | succ k => exact h2 (j + 2) (k + 2) m m' (by omega) (by simpa using hj) (by simpa using hk)
end
end Br
set_option maxHeartbeats 2000000
/-! BrG2: walks over a dict of our own, locked as long as it is walked. -/
namespace Br
open PySem PySem.Spec PyProof.Rows L2
section
variable {C : Cb} {F H : Hp} {ρ : Env} {σ : L2.St}
/-- a thing of our own in front is locked and hidden; what runs behind it leaves it as it was -/
theorem SR.lockU {p : PV} {a : Addr} {u : HO} (s : SR C F (some (.own p) :: ρ) (some (.ref a) :: σ) H) (hu : H a = some u) : ∃ A : List Addr, a ∉ A ∧ ∀ od, SR ⟨C.K, upd H a (.frz od u), F, A⟩ F ρ σ (upd H a (.frz od u)) ∧
    ∀ F' ρ' σ' H', SR ⟨C.K, upd H a (.frz od u), F, A⟩ F' ρ' σ' H' → H' a = some (.frz od u) ∧ SR C F' (some (.own p) :: ρ') (some (.ref a) :: σ') (upd H' a u) := by
  obtain ⟨fp, h1, h2⟩ := s.own
  obtain ⟨A, hA⟩ : ∃ A : List Addr, ∀ b, b ∈ A ↔ ∃ i m, ρ[i]? = some (some m) ∧ b ∈ fp (i + 1) := by
    refine ⟨(List.range ρ.length).flatMap fun i => match ρ[i]? with
      | some (some _) => fp (i + 1)
      | _ => [], fun b => ?_⟩
    rw [List.mem_flatMap]
    constructor
    · rintro ⟨i, _, hb⟩
      split at hb
      · rename_i m hm
        exact ⟨i, m, hm, hb⟩
      · exact absurd hb (by simp)
    · rintro ⟨i, m, hm, hb⟩
      obtain ⟨hi, _⟩ := List.getElem?_eq_some_iff.mp hm
      refine ⟨i, List.mem_range.mpr hi, ?_⟩
      rw [hm]
      exact hb
  obtain ⟨v0, hv0, ⟨a', ea, oa, ef⟩, nd0, q0⟩ := h1 0 _ rfl
  have ev : v0 = .ref a := by
    simp only [List.getElem?_cons_zero, Option.some.injEq] at hv0
    exact hv0.symm
  rw [ev] at ea
  cases ea
  obtain ⟨fa, oC⟩ := q0 a (by rw [ef]; simp)
  have off : ∀ i m, ρ[i]? = some (some m) → a ∉ fp (i + 1) := fun i m hm hb => h2 0 (i + 1) _ m (by omega) rfl (by simpa using hm) a (by rw [ef]; simp) hb
  have nA : a ∉ A := fun hb => by
    obtain ⟨i, m, hm, hf⟩ := (hA a).mp hb
    exact off i m hm hf
  have oA : ∀ b ∈ A, C.O b := fun b hb => by
    obtain ⟨i, m, hm, hf⟩ := (hA b).mp hb
    obtain ⟨_, _, _, _, q⟩ := h1 (i + 1) m (by simpa using hm)
    exact (q b hf).2
  refine ⟨A, nA, fun od => ⟨⟨fun b o e => ?_, Same.refl F, fun b o h _ => h, fun b n => .inl n, by have := s.len; simpa using this, fun i => fp (i + 1), fun i m hi => ?_, fun i j m k hij hi hj => h2 (i + 1) (j + 1) m k (by omega) (by simpa using hi) (by simpa using hj)⟩, fun F' ρ' σ' H' s' => ?_⟩⟩
  · rw [upd_ne (ne_of_none e fa)]
    exact s.le b o e
  · obtain ⟨w, hw, r, nd, q⟩ := h1 (i + 1) m (by simpa using hi)
    refine ⟨w, by simpa using hw, r.frame (Same.refl F) fun b hb => ?_, nd, fun b hb => ⟨(q b hb).1, .inl ((hA b).mpr ⟨i, m, hi, hb⟩)⟩⟩
    exact upd_ne fun z => off i m hi (z ▸ hb)
  · obtain ⟨gp, g1, g2⟩ := s'.own
    have e : Same F F' := s'.f0
    have hl : H' a = some (.frz od u) := s'.keep a _ upd_same nA
    have n1 : ∀ b, upd H a (.frz od u) b = none → H b = none ∧ b ≠ a := fun b hb => by
      by_cases z : b = a
      · rw [z, upd_same] at hb; cases hb
      · rw [upd_ne z] at hb; exact ⟨hb, z⟩
    have oC' : ∀ b, Cb.O ⟨C.K, upd H a (.frz od u), F, A⟩ b → C.O b := fun b h => by
      rcases h with h | h | ⟨ys, h⟩
      · exact oA b h
      · exact s.fresh (n1 b h).1
      · have h : upd H a (.frz od u) b = some (.tup ys) := h
        by_cases z : b = a
        · rw [z, upd_same] at h; cases h
        · rw [upd_ne z] at h; exact s.oTup h
    have noa : ¬ Cb.O ⟨C.K, upd H a (.frz od u), F, A⟩ a := fun h => by
      rcases h with h | h | ⟨ys, h⟩
      · exact nA h
      · exact (n1 a h).2 rfl
      · have h : upd H a (.frz od u) a = some (.tup ys) := h
        rw [upd_same] at h; cases h
    have fa' : F' a = none := by
      cases z : F' a with
      | none => rfl
      | some o =>
        rcases s'.fo a (by rw [z]; exact fun w => nomatch w) with q | q
        · exact absurd fa q
        · exact absurd q noa
    refine ⟨hl, fun b o z => ?_, s.f0.trans e, fun b o h0 hn => ?_, fun b n => ?_, by simp [s'.len], fun i => match i with | 0 => [a] | i + 1 => gp i, fun j m hj => ?_, fun j k m m' hjk hj hk => ?_⟩
    · rw [upd_ne (ne_of_none z fa')]
      exact s'.le b o z
    · have hb : b ≠ a := fun z => by
        rw [z] at h0 hn
        rcases s.oOwn (l := .own p) (v := .ref a) (fp := [a]) ⟨a, rfl, oa, rfl⟩ (by simp) oC with q | q
        · exact hn q
        · rw [q] at h0; cases h0
      rw [upd_ne hb]
      have h3 := s.keep b o h0 hn
      refine s'.keep b o ?_ fun hbA => ?_
      · show upd H a _ b = _
        rw [upd_ne hb]; exact h3
      · obtain ⟨i, m, hm, hf⟩ := (hA b).mp hbA
        obtain ⟨_, _, rl, _⟩ := h1 (i + 1) m (by simpa using hm)
        rcases s.oOwn rl hf (oA b hbA) with q | q
        · exact hn q
        · rw [h0] at q; cases q
    · rcases s'.fo b n with q | q
      · exact s.fo b q
      · exact .inr (oC' b q)
    · cases j with
      | zero =>
        simp only [List.getElem?_cons_zero, Option.some.injEq] at hj
        subst hj
        refine ⟨.ref a, rfl, ⟨a, rfl, oa.frame e ?_, rfl⟩, by simp, fun b hb => ?_⟩
        · rw [upd_same, hu]
        · obtain rfl : b = a := by simpa using hb
          exact ⟨fa', oC⟩
      | succ j =>
        obtain ⟨w, hw, r, nd, q⟩ := g1 j m (by simpa using hj)
        refine ⟨w, by simpa using hw, r.frame (Same.refl _) fun b hb => ?_, nd, fun b hb => ⟨(q b hb).1, oC' b (q b hb).2⟩⟩
        exact upd_ne fun z => noa (z ▸ (q b hb).2)
    · cases j with
      | zero =>
        cases k with
        | zero => exact absurd rfl hjk
        | succ k =>
          intro b hb hb2
          obtain rfl : b = a := by simpa using hb
          obtain ⟨_, _, _, _, q⟩ := g1 k m' (by simpa using hk)
          exact noa (q _ hb2).2
      | succ j =>
        cases k with
        | zero =>
          intro b hb hb2
          obtain rfl : b = a := by simpa using hb2
          obtain ⟨_, _, _, _, q⟩ := g1 j m (by simpa using hj)
          exact noa (q _ hb).2
        | succ k => exact g2 j k m m' (by omega) (by simpa using hj) (by simpa using hk)
end

section
variable {C : Cb} {Φ : Nat → List LV → CR} {W : WX} {pr : List Nat} {n : Nat}
/-- a loop's turns -/
theorem for_core {t : Tg} {ib : List St} {D : Ends} {xs : List PV} {ρ : Env} {F H : Hp} {σ : L2.St} {J : It} (hd : ∀ i ∈ t.ix, i ∉ pr) (s : SR C F ρ σ H) (hJ : ItemsC C F J xs) (k : SPost C W pr D σ F (forL (bindS (exSs Φ n ib) t) xs ρ)) :
    ∃ Wv : Nat → Nat → L2.St → Hp → Prop, (∃ m, Wv 0 m σ H) ∧ ∀ i m σ H, Wv i m σ H → (J.stop i H ∧ D.nx σ H) ∨ (J.go i H ∧ ∃ Nx : L2.St → Hp → Prop, (∀ σ' H', Nx σ' H' → ∃ m', m' < m ∧ Wv (i + 1) m' σ' H') ∧
      ∀ x H', J.yld i H x H' → tG C t x σ H' fun σ2 H2 => tSs C Φ W pr n ib { D with nx := Nx, ct := Nx, bk := D.nx } σ2 H2) := by
  generalize hf : bindS (exSs Φ n ib) t = f at k
  let Inv' : Nat → L2.St → Hp → Prop := fun i σ' H' => i ≤ xs.length ∧ Kp pr σ σ' ∧ ∃ ρ' F', Same F F' ∧ SR C F' ρ' σ' H' ∧ SPost C W pr D σ' F' (forL f (xs.drop i) ρ')
  refine ⟨fun i m σ' H' => m = xs.length - i ∧ Inv' i σ' H', ⟨xs.length, by simp, Nat.zero_le _, Kp.refl, ρ, F, Same.refl F, s, by rw [List.drop_zero]; exact k⟩, ?_⟩
  rintro i m σ2 H2 ⟨rfl, hle, kp2, ρ2, F2, e2, s2, k2⟩
  obtain ⟨J1, J2, J3⟩ := hJ i F2 ρ2 σ2 H2 e2 s2
  by_cases hlt : i < xs.length
  · obtain ⟨p, hp, hdr⟩ := drop_cons hlt
    rw [hdr] at k2
    refine .inr ⟨J1 p hp, Inv' (i + 1), fun σ' H' h => ⟨xs.length - (i + 1), by omega, rfl, h⟩, fun x H3 hy => ?_⟩
    obtain ⟨F3, e3, s3, r3⟩ := s2.item (J3 x H3 p hp hy)
    unfold forL at k2
    cases hbd : t.bind p ρ2 with
    | none =>
      have e0 : f p ρ2 = .st := by rw [← hf]; unfold bindS; rw [hbd]
      rw [e0] at k2
      exact False.elim k2
    | some ρ3 =>
      have e0 : f p ρ2 = exSs Φ n ib ρ3 := by rw [← hf]; unfold bindS; rw [hbd]
      rw [e0] at k2
      refine ⟨ρ2, F3, p, ρ3, s3, r3, hbd, fun σ4 H4 o4 s4 => ⟨ρ3, F3, s4, ?_⟩⟩
      have kp4 : Kp pr σ2 σ4 := Kp.only o4 hd
      cases hB : exSs Φ n ib ρ3 with
      | nx ρ5 =>
        rw [hB] at k2
        exact fun F' σ' H' e' k' s' => ⟨hlt, (kp2.trans kp4).trans k', ρ5, F', (e2.trans e3).trans e', s', SPost.mono k2 (e3.trans e') (kp4.trans k')⟩
      | ct ρ5 =>
        rw [hB] at k2
        exact fun F' σ' H' e' k' s' => ⟨hlt, (kp2.trans kp4).trans k', ρ5, F', (e2.trans e3).trans e', s', SPost.mono k2 (e3.trans e') (kp4.trans k')⟩
      | bk ρ5 =>
        rw [hB] at k2
        exact fun F' σ' H' e' k' s' => k2 F' σ' H' (e3.trans e') (kp4.trans k') s'
      | rt l ρ5 =>
        rw [hB] at k2
        exact fun F' σ' H' v e' k' s' => k2 F' σ' H' v (e3.trans e') (kp4.trans k') s'
      | ex c ρ5 =>
        rw [hB] at k2
        exact fun F' σ' H' e' k' s' => k2 F' σ' H' (e3.trans e') (kp4.trans k') s'
      | st => rw [hB] at k2; exact k2
  · have e : i = xs.length := by omega
    subst e
    rw [List.drop_eq_nil_of_le (Nat.le_refl _)] at k2
    exact .inl ⟨J2 (Nat.le_refl _), k2 F2 σ2 H2 (Same.refl F2) Kp.refl s2⟩
end
theorem key_rep {K : PySem.W.Frag} {F : Hp} (k : Key) : Rep K F (keyPV k) (kV k) := by cases k <;> rfl
theorem keys_items {C : Cb} {F H : Hp} {d : Addr} {od : Obj} {ks : List Key} {xs : List V} {A : List Addr} (hd : H d = some (.frz od (.dK (ks.zip xs)))) (nA : d ∉ A) (hl : ks.length = xs.length) : ItemsC ⟨C.K, H, F, A⟩ F (Itk d od (ks.zip xs)) (keysP ks) := fun i F' ρ σ H1 e s => by
  have h := s.keep d _ hd nA
  have hlen : (ks.zip xs).length = ks.length := by rw [List.length_zip, ← hl, Nat.min_self]
  refine ⟨fun p hp => ⟨h, ?_⟩, fun hi => ⟨h, ?_⟩, fun x H' p hp y => .inl ?_⟩
  · have := (List.getElem?_eq_some_iff.mp hp).1
    unfold keysP at this
    rw [List.length_map] at this
    omega
  · unfold keysP at hi
    rw [List.length_map] at hi
    omega
  · obtain ⟨e1, k, v, hk, rfl⟩ := y
    unfold keysP at hp
    rw [List.getElem?_map] at hp
    have hk2 : ks[i]? = some k := by
      rw [List.getElem?_zip_eq_some] at hk
      exact hk.1
    rw [hk2] at hp
    cases hp
    exact ⟨e1, key_rep k⟩
/-! ### the statements -/
def bSs (K : PySem.W.Frag) (Φ : Nat → List LV → CR) (W : WX) (pr : List Nat) (n : Nat) (b : List St) : TS := fun D σ H => ∃ C : Cb, C.K = K ∧ tSs C Φ W pr n b D σ H
theorem bSs.to {K : PySem.W.Frag} {Φ : Nat → List LV → CR} {W : WX} {pr : List Nat} {n : Nat} {b : List St} {X : Cx} {sb : List Stmt} (h : ∀ C : Cb, C.K = K → PSs X sb (tSs C Φ W pr n b)) : PSs X sb (bSs K Φ W pr n b) :=
  ⟨fun pins s σ H D I q => by obtain ⟨C, hC, q⟩ := q; exact (h C hC).run pins s σ H D I q⟩
/-! ### frozen for the time of the walk -/
section
variable {K : PySem.W.Frag} {F F' : Hp} {a : Addr} {od : Obj} {kv : List (Key × V)}
/-- without what lies at a -/
def less (F : Hp) (a : Addr) : Hp := fun b => if b = a then none else F b
theorem less_ne {b : Addr} (h : b ≠ a) : less F a b = F b := if_neg h
theorem less_a : less F a a = none := if_pos rfl
theorem less_of {b : Addr} {o : HO} (h : less F a b = some o) : b ≠ a ∧ F b = some o := by
  unfold less at h
  split at h
  · cases h
  · rename_i n; exact ⟨n, h⟩
/-- a dict -/
def DicU : HO → Prop
  | .dK _ => True
  | .dT _ => True
  | _ => False
theorem less_get {b : Addr} {o : HO} {u : HO} (fa : F a = some (.frz od u)) (h : F b = some o) (n : o ≠ .frz od u) : less F a b = some o := by
  rw [less_ne]
  · exact h
  · intro z
    subst z
    rw [fa] at h
    cases h
    exact n rfl
mutual
theorem Rep.thin {u : HO} (hu : DicU u) (fa : F a = some (.frz od u)) : ∀ {p : PV} {v : V}, p.noD = true → Rep K F p v → Rep K (less F a) p v
  | .non, _, _, h => h
  | .bl _, _, _, h => h
  | .int _, _, _, h => h
  | .str _, _, _, h => h
  | .ty _, _, _, h => h
  | .exc _, _, _, h => by
    obtain ⟨b, oe, vs, h1, h2, h3⟩ := h
    exact ⟨b, oe, vs, h1, less_get fa h2 (fun z => nomatch z), h3⟩
  | .tup l, _, hn, h => by
    obtain ⟨b, xs, h1, h2, h3⟩ := h
    exact ⟨b, xs, h1, less_get fa h2 (fun z => nomatch z), Reps.thin hu fa (by rw [PV.noD] at hn; exact hn) h3⟩
  | .xt l, _, hn, h => by
    obtain ⟨b, xs, o, h1, h2, h3, h4⟩ := h
    exact ⟨b, xs, o, h1, less_get fa h2 (fun z => by cases z; exact hu.elim), h3, Reps.thin hu fa (by rw [PV.noD] at hn; exact hn) h4⟩
  | .lst l, _, hn, h => by
    obtain ⟨b, xs, h1, h2, h3⟩ := h
    refine ⟨b, xs, h1, ?_, Reps.thin hu fa (by rw [PV.noD] at hn; exact hn) h3⟩
    rcases h2 with (h | ⟨o, h⟩) | h
    · exact .inl (.inl (less_get fa h (fun z => nomatch z)))
    · exact .inl (.inr ⟨o, less_get fa h (fun z => by cases z; exact hu.elim)⟩)
    · exact .inr h
  | .dK ks l, _, hn, h => by rw [PV.noD] at hn; cases hn
  | .dT ks l, _, hn, h => by rw [PV.noD] at hn; cases hn
  | .dX ks l, _, hn, h => by rw [PV.noD] at hn; cases hn
  | .obj _ _ _, _, hn, h => by rw [PV.noD] at hn; cases hn
  | .gt _, _, hn, h => by rw [PV.noD] at hn; cases hn
theorem Reps.thin {u : HO} (hu : DicU u) (fa : F a = some (.frz od u)) : ∀ {l : List PV} {xs : List V}, PV.noDs l = true → Reps K F l xs → Reps K (less F a) l xs
  | [], _, _, h => h
  | p :: l, _, hn, h => by
    rw [PV.noDs, Bool.and_eq_true] at hn
    obtain ⟨x, r, h1, h2, h3⟩ := h
    exact ⟨x, r, h1, Rep.thin hu fa hn.1 h2, Reps.thin hu fa hn.2 h3⟩
end
theorem own_thin {H : Hp} {b : Addr} {u : HO} (hu : DicU u) (fa : F a = some (.frz od u)) {p q : PV} (h : thinL (.own p) = some (.own q)) (o : OwnAt K F H b p) : p = q ∧ OwnAt K (less F a) H b p := by
  cases p with
  | lst l =>
    simp only [thinL] at h
    split at h
    · rename_i hn
      cases h
      obtain ⟨xs, h1, h2⟩ := o
      exact ⟨rfl, xs, h1, Reps.thin hu fa hn h2⟩
    · cases h
  | dK ks l =>
    simp only [thinL] at h
    split at h
    · rename_i hn
      cases h
      obtain ⟨xs, h1, h2, h3, h4⟩ := o
      exact ⟨rfl, xs, h1, h2, h3, Reps.thin hu fa hn h4⟩
    · cases h
  | dT ks l =>
    simp only [thinL] at h
    split at h
    · rename_i hn
      cases h
      obtain ⟨xs, h1, h2, h3, h4⟩ := o
      exact ⟨rfl, xs, h1, h2, h3, Reps.thin hu fa hn h4⟩
    · cases h
  | dX ks l =>
    simp only [thinL] at h
    split at h
    · rename_i hn
      cases h
      obtain ⟨bs, xs, h1, h2, h3, h4, h5, h6, h7⟩ := o
      exact ⟨rfl, bs, xs, h1, h2, h3, h4, h5, Reps.thin hu fa hn.2 h6, Reps.thin hu fa hn.1 h7⟩
    · cases h
  | _ => exact False.elim o
theorem RepL.thin {H : Hp} {u : HO} (hu : DicU u) (fa : F a = some (.frz od u)) {l l' : LV} {v : V} {fp : List Addr} (h : thinL l = some l') (r : RepL K F H l v fp) : l = l' ∧ RepL K (less F a) H l' v fp := by
  cases l with
  | fro p =>
    simp only [thinL] at h
    split at h
    · rename_i hn
      cases h
      exact ⟨rfl, Rep.thin hu fa hn r.1, r.2⟩
    · cases h
  | own p =>
    obtain ⟨b, h1, h2, h3⟩ := r
    have hq : ∃ q, l' = .own q := by
      cases p <;> simp only [thinL] at h <;> first | (split at h <;> first | (cases h; exact ⟨_, rfl⟩) | cases h) | cases h
    obtain ⟨q, rfl⟩ := hq
    obtain ⟨rfl, h4⟩ := own_thin hu fa h h2
    exact ⟨rfl, b, h1, h4, h3⟩
  | ins c ns ls => cases h
end
section
variable {K : PySem.W.Frag} {Hl F : Hp} {A : List Addr} {ρ : Env} {σ : L2.St} {a : Addr} {od : Obj} {kv : List (Key × V)}
/-- the dict's object among what is frozen -/
theorem SR.addF {u : HO} (s : SR ⟨K, Hl, F, A⟩ F ρ σ Hl) (ha : Hl a = some u) (nA : a ∉ A) (fa : F a = none) : SR ⟨K, Hl, upd F a u, A⟩ (upd F a u) ρ σ Hl := by
  obtain ⟨fp, h1, h2⟩ := s.own
  have e : Same F (upd F a u) := same_updF fa
  refine ⟨fun b o q => ?_, Same.refl _, s.keep, fun b n => .inl n, s.len, fp, fun i l hl => ?_, h2⟩
  · by_cases z : b = a
    · subst z; rw [upd_same] at q; cases q; exact ha
    · rw [upd_ne z] at q; exact s.le b o q
  · obtain ⟨v, hv, r, nd, q⟩ := h1 i l hl
    refine ⟨v, hv, r.frame e fun b _ => rfl, nd, fun b hb => ⟨?_, (q b hb).2⟩⟩
    rw [upd_ne]
    · exact (q b hb).1
    · intro z
      subst z
      rcases s.oOwn r hb (q b hb).2 with z | z
      · exact nA z
      · have z : Hl b = none := z
        rw [ha] at z; cases z
/-- .. and out of it again -/
theorem SR.thinF {F' H' : Hp} {u : HO} (hu : DicU u) (s : SR ⟨K, Hl, upd F a (.frz od u), A⟩ F' ρ σ H') (fa : F a = none) : SR ⟨K, Hl, F, A⟩ (less F' a) (thin ρ) σ H' ∧ ∀ F1, Same (upd F a (.frz od u)) F1 → Same F (less F1 a) := by
  have hF : ∀ F1, Same (upd F a (.frz od u)) F1 → Same F (less F1 a) := fun F1 e b o h => by
    have nb : b ≠ a := ne_of_none h fa
    rw [less_ne nb]
    exact e b o (by rw [upd_ne nb]; exact h)
  have fa' : F' a = some (.frz od u) := s.f0 a _ upd_same
  obtain ⟨fp, h1, h2⟩ := s.own
  have lift : ∀ {i : Nat} {l : LV}, (Br.thin ρ)[i]? = some (some l) → ∃ m, ρ[i]? = some (some m) ∧ thinL m = some l := fun {i l} h => by
    unfold Br.thin at h
    rw [List.getElem?_map] at h
    cases e : ρ[i]? with
    | none => rw [e] at h; cases h
    | some o =>
      rw [e] at h
      cases o with
      | none => cases h
      | some m => exact ⟨m, rfl, by simpa [thinO] using h⟩
  refine ⟨⟨fun b o h => s.le b o (less_of h).2, hF F' s.f0, s.keep, fun b n => ?_, ?_, fp, fun i l hl => ?_, fun i j l m hij hi hj => ?_⟩, hF⟩
  · by_cases z : b = a
    · subst z; rw [less_a] at n; exact absurd rfl n
    · rw [less_ne z] at n
      rcases s.fo b n with q | q
      · have q : upd F a (.frz od u) b ≠ none := q
        rw [upd_ne z] at q
        exact .inl q
      · exact .inr q
  · have := s.len
    unfold Br.thin
    rw [List.length_map]
    exact this
  · obtain ⟨m, hm, ht⟩ := lift hl
    obtain ⟨v, hv, r, nd, q⟩ := h1 i m hm
    obtain ⟨rfl, r2⟩ := RepL.thin hu fa' ht r
    refine ⟨v, hv, r2, nd, fun b hb => ⟨?_, (q b hb).2⟩⟩
    have q1 := (q b hb).1
    rw [less_ne]
    · exact q1
    · intro z
      subst z
      rw [fa'] at q1; cases q1
  · obtain ⟨l', hl', _⟩ := lift hi
    obtain ⟨m', hm', _⟩ := lift hj
    exact h2 i j l' m' hij hl' hm'
end
theorem XC.to {X : Cx} {C C' : Cb} (o : XC X C) (h : C'.K = C.K) : XC X C' := ⟨⟨h.trans o.K, o.nd, o.un⟩, o.calm⟩
section
variable {C : Cb} {Φ : Nat → List LV → CR} {W : WX} {pr : List Nat} {n : Nat} {X : Cx} {tg : Expr} {pos p : Pos} {x : Str} {sb : List Stmt}
theorem lock_end {i : Nat} {a : Addr} {p0 : PV} {kv : List (Key × V)} {Hl : Hp} {A : List Addr} {D : Ends} {σ : L2.St} {F : Hp} {r : SO} {od : Obj} (hσ : σ[i]? = some (some (.ref a))) (fa : F a = none)
    (back : ∀ F' ρ' σ' H', SR ⟨C.K, Hl, F, A⟩ F' ρ' σ' H' → H' a = some (.frz od (.dK kv)) ∧ SR C F' (some (.own p0) :: ρ') (some (.ref a) :: σ') (upd H' a (.dK kv))) (q : SPost C W pr D σ F (lockR i (.own p0) r)) :
    SPost ⟨C.K, Hl, upd F a (.frz od (.dK kv)), A⟩ W (i :: pr) ⟨fun σ' H' => H' a = some (.frz od (.dK kv)) ∧ D.nx σ' (upd H' a (.dK kv)), fun v H' => H' a = some (.frz od (.dK kv)) ∧ D.rt v (upd H' a (.dK kv)), fun σ' H' => H' a = some (.frz od (.dK kv)) ∧ D.bk σ' (upd H' a (.dK kv)), fun σ' H' => H' a = some (.frz od (.dK kv)) ∧ D.ct σ' (upd H' a (.dK kv))⟩ σ (upd F a (.frz od (.dK kv))) r := by
  have keepS : ∀ {σ' : L2.St}, Kp (i :: pr) σ σ' → Kp pr σ σ' ∧ σ'.set i (some (.ref a)) = σ' := fun {σ'} k => by
    refine ⟨fun j hj => k j (List.mem_cons_of_mem _ hj), ?_⟩
    have h := k i (by simp)
    rw [hσ] at h
    obtain ⟨hi, e⟩ := List.getElem?_eq_some_iff.mp h
    rw [← e]
    exact List.set_getElem_self hi
  cases r with
  | nx ρ1 =>
    intro F' σ' H' e' k' s'
    obtain ⟨s4, hF⟩ := SR.thinF (u := .dK kv) trivial s' fa
    obtain ⟨hl, s2⟩ := back _ _ σ' H' s4
    obtain ⟨kp, es⟩ := keepS k'
    refine ⟨hl, q _ σ' _ (hF F' e') kp ?_⟩
    have s3 := s2.put i
    rw [es] at s3
    exact s3
  | rt v ρ1 =>
    intro F' σ' H' w e' k' s'
    obtain ⟨s4, hF⟩ := SR.thinF (u := .dK kv) trivial s' fa
    simp only [lockR] at q
    split at q
    · rename_i v2 hv
      have ev : Br.thin (some v :: ρ1) = some v2 :: Br.thin ρ1 := by
        show thinL v :: _ = _
        rw [hv]
        rfl
      rw [ev] at s4
      obtain ⟨hl, s2⟩ := back _ _ (some w :: σ') H' s4
      obtain ⟨kp, es⟩ := keepS k'
      refine ⟨hl, q _ σ' _ w (hF F' e') kp ?_⟩
      have s3 := s2.put (i + 1)
      simp only [List.set_cons_succ] at s3
      rw [es] at s3
      exact s3
    · exact False.elim q
  | bk ρ1 => exact False.elim q
  | ct ρ1 => exact False.elim q
  | ex c ρ1 => exact False.elim q
  | st => exact False.elim q
/-- the slot of the locked dict reads it -/
theorem SR.readF {K : PySem.W.Frag} {F H : Hp} {A : List Addr} {ρ : Env} {σ : L2.St} {i : Nat} {a : Addr} {od : Obj} {ks : List Key} {vs : List PV} {xs : List V} (hσ : σ[i]? = some (some (.ref a))) (fa : F a = none) (nA : a ∉ A) (hl : ks.length = xs.length) (nd : ks.Nodup) (rr : Reps K F vs xs)
    (s : SR ⟨K, upd H a (.frz od (.dK (ks.zip xs))), F, A⟩ F (ρ.set i none) σ (upd H a (.frz od (.dK (ks.zip xs))))) :
    SR ⟨K, upd H a (.frz od (.dK (ks.zip xs))), upd F a (.frz od (.dK (ks.zip xs))), A⟩ (upd F a (.frz od (.dK (ks.zip xs)))) (ρ.set i (some (.fro (.dK ks vs)))) σ (upd H a (.frz od (.dK (ks.zip xs)))) := by
  have s2 := s.addF (u := .frz od (.dK (ks.zip xs))) upd_same nA fa
  have s3 := (s2.push (p := .dK ks vs) (v := .ref a) ⟨a, xs, rfl, .inr ⟨od, upd_same⟩, hl, nd, rr.mono (same_updF fa)⟩).put i
  obtain ⟨hi, e⟩ := List.getElem?_eq_some_iff.mp hσ
  have e2 : σ.set i (some (.ref a)) = σ := by rw [← e]; exact List.set_getElem_self hi
  rw [e2, List.set_set] at s3
  exact s3
/-- for x in d, d of our own -/
theorem st_forK {i : Nat} {t : Tg} {ib : List St} (o : XC X C) (hp : PassesOwn (model X.prog X.w) X.A X.env X.xe) (hN : X.N[i]? = some x) (hv : Vis X.env.scope x) (hd : ∀ j ∈ t.ix, j ∉ i :: pr)
    (hg : ∀ C' : Cb, C'.K = C.K → PG X tg (tG C' t)) (hb : ∀ C' : Cb, C'.K = C.K → PSs X sb (tSs C' Φ W (i :: pr) n ib)) (h1 : (x == ("__debug__" : Str)) = false := by decide) (h2 : (x == ("__classdict__" : Str)) = false := by decide)
    (hs : ∀ y, foldedSetIterable (.Name x p) X.env y = pure y := by intro _; rfl) : PS X (.For tg (.Name x p) sb [] pos) (tS C Φ W pr n (.for (.lock i false) t ib)) :=
  (ps_lock (ps_for hp o.calm (pi_keys (pe_var hN hv h1 h2)) (bG.to hg) (bSs.to hb) hs)).weak fun D σ H q => by
    obtain ⟨ρ, F, s, q⟩ := q
    unfold exS at q
    dsimp only at q
    unfold at' at q
    split at q
    · rename_i ks vs hl
      split at hl
      · rename_i l' e
        cases hl
        obtain ⟨v, hv', s1⟩ := s.lift e
        obtain ⟨a, ha, ⟨xs, hH, hlen, nd, rr⟩, fa, _⟩ := s.ownAt e
        rw [hv'] at ha
        cases ha
        obtain ⟨A, nA, hA⟩ := s1.lockU hH
        refine ⟨a, .dK (ks.zip xs), hH, trivial, fun od => ?_⟩
        obtain ⟨s2, back⟩ := hA od
        rw [if_neg Bool.false_ne_true] at q
        have q2 := lock_end hv' fa back q
        have s2 := s2.readF hv' fa nA hlen nd rr
        refine ⟨.ref a, hv', a, od, rfl, .inl ⟨ks.zip xs, upd_same, ?_⟩⟩
        obtain ⟨Wv, w0, w1⟩ := for_core hd s2 (keys_items (C := C) upd_same nA hlen) q2
        exact ⟨Wv, w0, fun i m σ8 H8 h => (w1 i m σ8 H8 h).imp id fun ⟨g, Nx, h1, h2⟩ => ⟨g, Nx, h1, fun x H' y => by
          obtain ⟨ρ5, F5, p5, ρ6, g1, g2, g3, g4⟩ := h2 x H' y
          exact ⟨⟨C.K, upd H a (.frz od (.dK (ks.zip xs))), upd F a (.frz od (.dK (ks.zip xs))), A⟩, rfl, ρ5, F5, p5, ρ6, g1, g2, g3, fun σ' H' o s => ⟨⟨C.K, upd H a (.frz od (.dK (ks.zip xs))), upd F a (.frz od (.dK (ks.zip xs))), A⟩, rfl, g4 σ' H' o s⟩⟩⟩⟩
      · cases hl
    · exact False.elim q
end
end Br
set_option maxHeartbeats 2000000
/-! BrG3: a temporary of our own as an argument that the def may write; displays of pairs whose object is known. -/
namespace Br
open PySem PySem.Spec PyProof.Rows L2
section
variable {K : PySem.W.Frag} {F : Hp} {σ : L2.St} {w : Option V}
theorem AVR.sh : ∀ {a : AV} {v : V}, AVR K F σ a v → AVR K F (w :: σ) a.sh v
  | .val _, _, h => h
  | .ref _, _, h => h
theorem AVRs.sh : ∀ {as : List AV} {vs : List V}, AVRs K F σ as vs → AVRs K F (w :: σ) (as.map AV.sh) vs
  | [], _, h => h
  | a :: as, _, h => by
    obtain ⟨v, r, h1, h2, h3⟩ := h
    exact ⟨v, r, h1, h2.sh, AVRs.sh h3⟩
theorem AVRs.app : ∀ {as bs : List AV} {vs ws : List V}, AVRs K F σ as vs → AVRs K F σ bs ws → AVRs K F σ (as ++ bs) (vs ++ ws)
  | [], _, vs, _, h, k => by rw [show vs = [] from h]; exact k
  | a :: as, _, _, _, h, k => by
    obtain ⟨v, r, rfl, h2, h3⟩ := h
    exact ⟨v, _, rfl, h2, AVRs.app h3 k⟩
end
theorem evAs_0 {Φ : Nat → List LV → CR} {ρ : Env} : evAs Φ [] ρ = .ok [] ρ := by rw [evAs]
theorem evAs_c {Φ : Nat → List LV → CR} {a : Arg} {as : List Arg} {ρ : Env} : evAs Φ (a :: as) ρ = (evA Φ a ρ).bind fun av ρ1 => (evAs Φ as ρ1).bind fun avs ρ2 => .ok (av :: avs) ρ2 := by rw [evAs]
def evM (Φ : Nat → List LV → CR) (as : List Arg) (x : Ex) (bs : List Arg) (ρ : Env) : ER (List AV × LV × List AV) :=
  (evAs Φ as ρ).bind fun avs ρ1 => (evL Φ x ρ1).bind fun l ρ3 => (evAs Φ bs ρ3).bind fun bvs ρ4 => .ok (avs, l, bvs) ρ4
section
variable (C : Cb) (Φ : Nat → List LV → CR) (W : WX)
def PostM (σ : L2.St) (F : Hp) (r : ER (List AV × LV × List AV)) (Q : List V → Hp → Prop) : Prop := match r with
  | .ok m ρ => ∀ F' H' v, Same F F' → SR C F' (some m.2.1 :: ρ) (some v :: σ) H' → ∀ vs ws, AVRs C.K F' σ m.1 vs → AVRs C.K F' σ m.2.2 ws → Q (vs ++ v :: ws) H'
  | .ex c ρ => ∀ F' H', Same F F' → SR C F' ρ σ H' → W (.ref (He.ga C.K c)) none σ H'
  | .st => False
def tMs (as : List Arg) (x : Ex) (bs : List Arg) : TA := fun σ H Q => ∃ ρ F, SR C F ρ σ H ∧ PostM C W σ F (evM Φ as x bs ρ) Q
/-- arguments' reading over any base -/
def bAs (K : PySem.W.Frag) (bs : List Arg) : TA := fun σ H Q => ∃ C : Cb, C.K = K ∧ tAs C Φ W bs σ H Q
end
section
variable {C : Cb} {Φ : Nat → List LV → CR} {W : WX} {X : Cx} {a e : Expr} {es : List Expr} {pos p : Pos} {x : Str}
theorem bAs.to {K : PySem.W.Frag} {bs : List Arg} (h : ∀ C : Cb, C.K = K → PA X es (tAs C Φ W bs)) : PA X es (bAs Φ W K bs) :=
  ⟨fun pos pins s σ H Q I q => by obtain ⟨C, hC, q⟩ := q; exact (h C hC).run pos pins s σ H Q I q⟩
theorem m_nil {y : Ex} {bs : List Arg} (he : PE X e (tL' C Φ W y)) (hb : ∀ C' : Cb, C'.K = C.K → PA X es (tAs C' Φ W bs)) (hs : starEach (e :: es) X.env = (false, eval e X.env) :: starEach es X.env := by rfl) : PA X (e :: es) (tMs C Φ W [] y bs) :=
  (pa_cons he (bAs.to hb) hs).weak fun σ H Q q => by
    obtain ⟨ρ, F, s, q⟩ := q
    have q : PostM C W σ F ((evL Φ y ρ).bind fun l ρ3 => (evAs Φ bs ρ3).bind fun bvs ρ4 => .ok ([], l, bvs) ρ4) Q := by
      unfold evM at q
      rw [evAs_0] at q
      exact q
    refine ⟨ρ, F, s, ?_⟩
    cases hr : evL Φ y ρ with
    | st => rw [hr] at q; exact q
    | ex c ρ3 =>
      rw [hr] at q
      exact fun F' H' e' s' => q F' H' e' s'
    | ok l ρ3 =>
      rw [hr] at q
      intro F3 H3 v e3 s3
      obtain ⟨A, s4, back⟩ := s3.hide
      refine ⟨⟨C.K, H3, F3, A⟩, rfl, ρ3, F3, s4, ?_⟩
      have q : PostM C W σ F ((evAs Φ bs ρ3).bind fun bvs ρ4 => .ok ([], l, bvs) ρ4) Q := q
      cases hb2 : evAs Φ bs ρ3 with
      | st => rw [hb2] at q; exact q
      | ex c ρ4 =>
        rw [hb2] at q
        exact fun F' H' e' s' => q F' H' (e3.trans e') (back F' ρ4 H' s').pop
      | ok bvs ρ4 =>
        rw [hb2] at q
        exact fun F' H' e' s' ws r => q F' H' v (e3.trans e') (back F' ρ4 H' s') [] ws rfl r
theorem m_cons {ia : Arg} {ias : List Arg} {y : Ex} {bs : List Arg} (ha : PE X a (tA1 C Φ W ia)) (hr : PA X es (tMs C Φ W ias y bs)) (hs : starEach (a :: es) X.env = (false, eval a X.env) :: starEach es X.env := by rfl) : PA X (a :: es) (tMs C Φ W (ia :: ias) y bs) :=
  (pa_cons ha hr hs).weak fun σ H Q q => by
    obtain ⟨ρ, F, s, q⟩ := q
    have q : PostM C W σ F ((evA Φ ia ρ).bind fun av ρ0 => (evM Φ ias y bs ρ0).bind fun m ρ4 => .ok (av :: m.1, m.2.1, m.2.2) ρ4) Q := by
      unfold evM at q ⊢
      rw [evAs_c, ER.bind_assoc] at q
      refine cast (congrArg (fun f => PostM C W σ F ((evA Φ ia ρ).bind f) Q) (funext fun av => funext fun ρ0 => ?_)) q
      rw [ER.bind_assoc, ER.bind_assoc]
      congr 1
      funext avs ρ1
      rw [ER.bind_ok, ER.bind_assoc]
      congr 1
      funext l ρ3
      rw [ER.bind_assoc]
      congr 1
    refine ⟨ρ, F, s, ?_⟩
    cases hA : evA Φ ia ρ with
    | st => rw [hA] at q; exact q
    | ex c ρ0 =>
      rw [hA] at q
      exact fun F' H' e' s' => q F' H' e' s'
    | ok av ρ0 =>
      rw [hA] at q
      intro F1 H1 e1 s1 v r
      refine ⟨ρ0, F1, s1, ?_⟩
      have q : PostM C W σ F ((evM Φ ias y bs ρ0).bind fun m ρ4 => .ok (av :: m.1, m.2.1, m.2.2) ρ4) Q := q
      cases hM : evM Φ ias y bs ρ0 with
      | st => rw [hM] at q; exact q
      | ex c ρ4 =>
        rw [hM] at q
        exact fun F' H' e' s' => q F' H' (e1.trans e') s'
      | ok m ρ4 =>
        rw [hM] at q
        exact fun F' H' w e' s' vs ws r1 r2 => q F' H' w (e1.trans e') s' (v :: vs) ws ⟨v, vs, rfl, r.mono e', r1⟩ r2
theorem call_tM0 {j : Nat} {as bs : List Arg} {y : Ex} {σ : L2.St} {F H : Hp} {ρ : Env} {Q : VK} (s : SR C F ρ σ H) (q : PostL C W σ F ((evM Φ as y bs ρ).bind fun m ρ4 => callT (Φ j) m.1 m.2.1 m.2.2 ρ4) fun _ _ _ H' v => Q v H') :
    tCallS (spOf C.K (Φ j)) (WE W) (tMs C Φ W as y bs) σ H Q := by
  refine ⟨ρ, F, s, ?_⟩
  cases hM : evM Φ as y bs ρ with
  | st => rw [hM] at q; exact q
  | ex c ρ4 =>
    rw [hM] at q
    exact fun F' H' e' s' => q F' H' e' s'
  | ok m ρ4 =>
    rw [hM] at q
    obtain ⟨avs, l, bvs⟩ := m
    intro F1 H1 v e1 s1 vs ws r1 r2
    have q : PostL C W σ F (dropT (callE (Φ j) (avs.map AV.sh ++ .ref 0 :: bvs.map AV.sh) (some l :: ρ4))) fun _ _ _ H' v => Q v H' := q
    have rs : AVRs C.K F1 (some v :: σ) (avs.map AV.sh ++ .ref 0 :: bvs.map AV.sh) (vs ++ v :: ws) := r1.sh.app ⟨v, ws, rfl, rfl, r2.sh⟩
    unfold callE at q
    split at q
    · rename_i ls hls
      split at q
      · rename_i hnd
        obtain ⟨fp, sr, io⟩ := call_io s1 rs hls hnd
        refine ⟨F1, ls, fp, sr, ?_⟩
        have tl : ∀ ms, ∃ y t, AV.back (some l :: ρ4) (avs.map AV.sh ++ .ref 0 :: bvs.map AV.sh) ms = y :: t := fun ms => by
          have h := back_len (avs.map AV.sh ++ .ref 0 :: bvs.map AV.sh) ms (some l :: ρ4)
          cases hb : AV.back (some l :: ρ4) (avs.map AV.sh ++ .ref 0 :: bvs.map AV.sh) ms with
          | nil => rw [hb] at h; simp at h
          | cons y t => exact ⟨y, t, rfl⟩
        split at q
        · rename_i r ls' hg
          split at q
          · rename_i hl
            try rw [hg]
            intro v' H' F' sr'
            have z := io r v' ls' F' H' sr' hl
            obtain ⟨y, t, hb⟩ := tl (maskL ls ls')
            rw [hb] at z
            have q : ∀ F' H' v, Same F F' → SR C F' (some r :: (AV.back (some l :: ρ4) (avs.map AV.sh ++ .ref 0 :: bvs.map AV.sh) (maskL ls ls')).tail) (some v :: σ) H' → Q v H' := q
            rw [hb] at q
            exact q F' H' v' (e1.trans sr'.f0) z.drop2
          · exact False.elim q
        · rename_i cc ls' hg
          split at q
          · rename_i hl
            try rw [hg]
            intro H' F' sr'
            have z := (io (.fro .non) .non ls' F' H' (sr'.push rfl) hl).pop
            obtain ⟨y, t, hb⟩ := tl (maskL ls ls')
            rw [hb] at z
            have q : ∀ F' H', Same F F' → SR C F' (AV.back (some l :: ρ4) (avs.map AV.sh ++ .ref 0 :: bvs.map AV.sh) (maskL ls ls')).tail σ H' → W (.ref (He.ga C.K cc)) none σ H' := q
            rw [hb] at q
            exact q F' H' (e1.trans sr'.f0) z.pop
          · exact False.elim q
        · exact False.elim q
      · exact False.elim q
    · exact False.elim q
theorem call_tM {j k : Nat} {as cs bs : List Arg} {σ : L2.St} {H : Hp} {Q : VK} (q : tL' C Φ W (.callT j as k cs bs) σ H Q) : tCallS (spOf C.K (Φ j)) (WE W) (tMs C Φ W as (.call k cs) bs) σ H Q := by
  obtain ⟨ρ, F, s, q⟩ := q
  have q : PostL C W σ F ((evM Φ as (.call k cs) bs ρ).bind fun m ρ4 => callT (Φ j) m.1 m.2.1 m.2.2 ρ4) fun _ _ _ H' v => Q v H' := by
    refine cast (congrArg (fun r => PostL C W σ F r fun _ _ _ H' v => Q v H') ?_) q
    unfold evM
    show (evAs Φ as ρ).bind _ = _
    rw [ER.bind_assoc]
    congr 1
    funext avs ρ1
    show _ = (((evAs Φ cs ρ1).bind fun cvs ρ2 => callE (Φ k) cvs ρ2).bind _).bind _
    rw [ER.bind_assoc, ER.bind_assoc]
    congr 1
    funext cvs ρ2
    congr 1
    funext l ρ3
    rw [ER.bind_assoc]
    congr 1
  exact call_tM0 s q
theorem l_fnT {j kk k : Nat} {ps : List Str} {as cs bs : List Arg} (o : XO X C) (h : Ok X.prog X.w X.K X.mg X.base kk x ps (Φ j)) (hr : Room kk X.A) (hg : Gl X x) (tk : Takes X W) (ha : PA X (e :: es) (tMs C Φ W as (.call k cs) bs)) (hdb : (x == ("__debug__" : Str)) = false := by decide)
    (he : starEach (e :: es) X.env = (false, eval e X.env) :: starEach es X.env := by rfl) (hpl : (backTo pos (starEach es X.env)).any (·.1) = false := by rfl) : PE X (.Call (.Name x p) (e :: es) [] pos) (tL' C Φ W (.callT j as k cs bs)) := by
  obtain ⟨fd, Fn, hk, hb, hm⟩ := h
  exact (pe_callS Fn hr hg hm hk hb (passAt tk) ha hdb he hpl).weak fun _ _ _ q => by rw [← o.K]; exact call_tM q
theorem e_callT {j k : Nat} {as cs bs : List Arg} (h : PE X e (tL' C Φ W (.callT j as k cs bs))) : PE X e (tE C Φ W (.callT j as k cs bs)) := e_ofL h fun ρ => by
  show evE Φ (.callT j as k cs bs) ρ = ER.bind ((evAs Φ as ρ).bind fun avs ρ1 => (evAs Φ cs ρ1).bind fun cvs ρ2 => (callE (Φ k) cvs ρ2).bind fun l ρ3 => (evAs Φ bs ρ3).bind fun bvs ρ4 => callT (Φ j) avs l bvs ρ4) (fun l ρ => ER.of l.pv ρ)
  rw [ER.bind_assoc]
  unfold evE
  congr 1
  funext avs ρ1
  rw [ER.bind_assoc]
  congr 1
  funext cvs ρ2
  rw [ER.bind_assoc]
  congr 1
  funext l ρ3
  rw [ER.bind_assoc]
  rfl
/-- a display whose object is known -/
theorem pe_tupX {t : TA} {k : Nat} (h : PA X es t) : PE X (.Tuple es k pos) (fun σ H Q => t σ H fun xs H1 => xs.length ≤ sizeLine ∧ ∀ p o, H1 p = none → o.dict = none → Q (.ref p) (upd H1 p (.frz o (.tup xs)))) := by
  refine ⟨fun pins s σ H Q I hq => ?_⟩
  refine wpAny_Tuple_spliced (thn (h.run pos pins s σ H _ I hq) fun us s1 ⟨xs, H1, I1, r, z, q⟩ => ⟨by rw [← r.length]; exact z, ?_⟩)
  have hf : H1 s1.heap.objs.size = none := I1.hok.fresh (Nat.le_refl _)
  let ob : Obj := { cls := .type "tuple", data := .seq us.toArray }
  refine ⟨.ref s1.heap.objs.size, upd H1 s1.heap.objs.size (.frz ob (.tup xs)), I1.laid (t' := s1.toks) (fun b u e => Heap.get?_push_of_some _ e) (Nat.le_refl _) ?_, rfl, q _ ob hf rfl⟩
  exact ⟨Heap.get?_push_size _ rfl, z, us, r, ⟨_, Heap.get?_push_size _ rfl, rfl, _, rfl⟩⟩
theorem e_xtup {k : Nat} {irs : List Ex} (h : PA X es (tEs C Φ W irs)) : PE X (.Tuple es k pos) (tE C Φ W (.xtup irs)) := (pe_tupX h).weak fun σ H Q q => by
  obtain ⟨ρ, F, s, q⟩ := q
  unfold evE at q
  refine ⟨ρ, F, s, q.bind.imp fun ps ρ1 F1 H1 e1 s1 k1 xs r => ?_⟩
  split at k1
  · rename_i hl
    refine ⟨by rw [← r.length]; exact lim_line hl, fun p o hf hd => ?_⟩
    have e2 : Same F1 (upd F1 p (.frz o (.tup xs))) := same_updF (s1.fnone hf)
    exact k1 _ _ e2 (s1.alloc hf _) _ ⟨p, xs, o, rfl, upd_same, hd, r.mono e2⟩
  · exact False.elim k1
end
end Br
set_option maxHeartbeats 4000000
/-! BrX1: try .. except X as e: the refusal is tracked as its one object; isinstance of it; defs that an except suite calls. -/
namespace Br
open PySem PySem.Spec PyProof.Rows L2

/-! ### what the head says of the refusals' classes -/
def clsU (K : PySem.W.Frag) (x : Str) : Value := if x = "ValueError" then .type "ValueError" else .ref (He.ga K x)
structure EX (kn : List Str) (K : PySem.W.Frag) : Prop where
  c : ∀ c ∈ kn, ExcC K (He.ga K c)
  k : ∀ c ∈ kn, ∀ x ∈ ("BrimError" : Str) :: "ValueError" :: kn, PySem.W.kitOne K (.ref (He.ga K c)) (clsU K x) = some (subX c x)
  m : ∀ c ∈ kn, ∀ x ∈ ("BrimError" : Str) :: kn, PySem.W.exmOne K (.ref (He.ga K c)) (.ref (He.ga K x)) = some (subX c x)
  n : ∀ x ∈ ("BrimError" : Str) :: "ValueError" :: kn, PySem.W.kitOne K (.type "NoneType") (clsU K x) = some false
/-! ### isinstance of a refusal, or of None -/
section
variable {X : Cx}
end
section
variable {C : Cb} {Φ : Nat → List LV → CR} {W : WX} {X : Cx} {a b c e : Expr} {es : List Expr} {pos p : Pos} {x : Str}
end

/-! ### try .. except x as n, the exception's object tracked -/
section
variable {X : Cx} {x n : Str} {c : Value} {i : Nat} {body suite : List Stmt} {b₀ : Stmt} {np pos pos' : Pos} {tb : WX → TS} {ts : TS} {Wout : WX}
end
end Br
set_option maxHeartbeats 4000000
/-! BrX2: the statement try; defs that an except suite calls. -/
namespace Br
open PySem PySem.Spec PyProof.Rows L2

section
variable {C : Cb} {Φ : Nat → List LV → CR} {W : WX} {pr : List Nat} {n : Nat} {X : Cx} {pos pos' np : Pos} {x y : Str} {body suite : List Stmt} {b₀ : Stmt}
end

/-! ### defs that a suite calls: straight on, no loops -/
structure FnG (P : Program) (w : World) (K : PySem.W.Frag) (mg : Str → Option Value) (base : Heap) (k : Nat) (f : Addr) (fd : FuncData) (ps : List Str) (sp : Sp) : Prop where
  len : ∀ vs H Q E, sp vs H Q E → vs.length = ps.length
  run : ∀ (A : Around) (outer : List PySem.Env) (s : Shared) (H : Hp) (args : Args) (us : List Value) (vs : List V) (Q : VK) (E : XK), L2H.RoomH k A → Env0 P w K mg base A outer s H → BindsTo s fd args (ps.zip us) → Vals vs us → sp vs H Q E →
    codeAny (model P w) A (.call (.ref f) args) (L2.CR (L2.CX P w) outer P w H s Q E) s
section
variable {P : Program} {w : World} {K : PySem.W.Frag} {mg : Str → Option Value} {base : Heap} {x qual : Str} {params : Arguments} {body : List Stmt} {scope : Scope} {f : Addr} {fd : FuncData} {N ps : List Str} {k n : Nat} {Φ : Nat → List LV → CR} {sp : Sp}
structure BG (X : Cx) (C : Cb) (W : WX) (k : Nat) : Prop where
  o : XO X C
  tk : Takes X W
  room : L2H.RoomH k X.A
end
section
variable {C : Cb} {Φ : Nat → List LV → CR} {W : WX} {X : Cx} {e : Expr} {es : List Expr} {pos p : Pos} {x : Str} {k j : Nat} {ps : List Str} {irs : List Arg}
end
end Br
set_option maxHeartbeats 1000000
/-! BrW1: instances of own classes: made, and their methods called. -/
namespace Br
open PySem PySem.Spec PyProof.Rows L2
/-- what an instance is may be changed as a whole -/
theorem SR.open {C : Cb} {F H : Hp} {ρ : Env} {σ : L2.St} (s : SR C F ρ σ H) {i : Nat} {l : LV} (hi : ρ[i]? = some (some l)) : ∃ (v : V) (fi : List Addr), σ[i]? = some (some v) ∧ RepL C.K F H l v fi ∧ fi.Nodup ∧ (∀ a ∈ fi, F a = none ∧ C.O a) ∧
    ∀ (H' : Hp) (l' : LV) (fi' : List Addr), (∀ a o, a ∉ fi → H a = some o → H' a = some o) → RepL C.K F H' l' v fi' → fi'.Nodup → (∀ a ∈ fi', a ∈ fi ∨ H a = none) → SR C F (ρ.set i (some l')) σ H' := by
  obtain ⟨fp, h1, h2⟩ := s.own
  obtain ⟨v, hv, r, nd, q⟩ := h1 i l hi
  refine ⟨v, fp i, hv, r, nd, q, fun H' l' fi' hk r' nd' hf => ?_⟩
  have hil : i < ρ.length := (List.getElem?_eq_some_iff.mp hi).1
  refine ⟨fun b u e => ?_, s.f0, fun a o h0 ha => ?_, s.fo, by rw [List.length_set]; exact s.len, fun j => if j = i then fi' else fp j, fun j m hm => ?_, fun j k m m' hjk hm hm' a ha => ?_⟩
  · refine hk b u (fun hb => ?_) (s.le b u e)
    rw [(q b hb).1] at e
    cases e
  · have e := s.keep a o h0 ha
    refine hk a o (fun hb => ?_) e
    rcases (q a hb).2 with z | z | ⟨xs, z⟩
    · exact ha z
    · rw [z] at h0; cases h0
    · rw [z] at h0
      cases h0
      exact r.noTup a hb xs e
  · by_cases hj : j = i
    · subst hj
      rw [List.getElem?_set_self hil] at hm
      cases hm
      dsimp only
      rw [if_pos rfl]
      refine ⟨v, hv, r', nd', fun a ha => ?_⟩
      rcases hf a ha with z | z
      · exact q a z
      · exact ⟨s.fnone z, s.fresh z⟩
    · rw [List.getElem?_set_ne (fun z => hj z.symm)] at hm
      dsimp only
      rw [if_neg hj]
      obtain ⟨w, hw, rw', ndw, qw⟩ := h1 j m hm
      refine ⟨w, hw, rw'.frame (Same.refl F) fun a ha => ?_, ndw, qw⟩
      obtain ⟨o, ho⟩ := rw'.there a ha
      rw [hk a o (fun z => h2 j i m l hj hm hi a ha z) ho, ho]
  · dsimp only at ha ⊢
    by_cases hj : j = i
    · have hki : ¬ k = i := fun z => hjk (hj.trans z.symm)
      rw [if_pos hj] at ha
      rw [if_neg hki]
      rw [List.getElem?_set_ne (fun z => hki z.symm)] at hm'
      intro hb
      rcases hf a ha with z | z
      · exact h2 i k l m' (fun z => hki z.symm) hi hm' a z hb
      · obtain ⟨w, hw, rw', ndw, qw⟩ := h1 k m' hm'
        obtain ⟨o, ho⟩ := rw'.there a hb
        rw [z] at ho
        cases ho
    · rw [if_neg hj] at ha
      rw [List.getElem?_set_ne (fun z => hj z.symm)] at hm
      by_cases hki : k = i
      · rw [if_pos hki]
        intro hb
        rcases hf a hb with z | z
        · exact h2 j i m l hj hm hi a ha z
        · obtain ⟨w, hw, rw', ndw, qw⟩ := h1 j m hm
          obtain ⟨o, ho⟩ := rw'.there a ha
          rw [z] at ho
          cases ho
      · rw [if_neg hki]
        rw [List.getElem?_set_ne (fun z => hki z.symm)] at hm'
        exact h2 j k m m' hjk hm hm' a ha
section
variable {C : Cb} {Φ : Nat → List LV → CR} {W : WX} {X : Cx} {e o : Expr} {es : List Expr} {pos p apos : Pos} {x m c : Str} {j i k kk : Nat} {irs : List Arg} {ps : List Str} {ns : List Str} {f Cl : Addr} {fd : FuncData} {sp : Sp} {ta : TE} {t : TA}
end
end Br
set_option maxHeartbeats 1000000
/-! BrW2: attributes of an instance: read, stored, appended to. -/
namespace Br
open PySem PySem.Spec PyProof.Rows L2
section
variable {K : PySem.W.Frag} {F H : Hp}
theorem RepLs.at : ∀ {ls : List LV} {vs : List V} {fr : List Addr} {k : Nat} {l : LV}, RepLs K F H ls vs fr → ls[k]? = some l → ∃ v fl, vs[k]? = some v ∧ RepL K F H l v fl ∧ ∀ a ∈ fl, a ∈ fr
  | [], vs, fr, k, l, h, e => by simp at e
  | m :: ls, vs, fr, k, l, h, e => by
    obtain ⟨v, r, f1, f2, rfl, h1, h2, rfl⟩ := h
    cases k with
    | zero =>
      simp at e
      subst e
      exact ⟨v, f1, rfl, h1, fun a ha => by simp [ha]⟩
    | succ k =>
      obtain ⟨w, fl, e1, e2, e3⟩ := RepLs.at h2 (k := k) (by simpa using e)
      exact ⟨w, fl, by simpa using e1, e2, fun a ha => by simp [e3 a ha]⟩
theorem RepLs.set : ∀ {ls : List LV} {vs : List V} {fr : List Addr} {k : Nat} {l : LV} {y : V} {fl : List Addr}, RepLs K F H ls vs fr → k < ls.length → RepL K F H l y fl → (fr ++ fl).Nodup →
    ∃ fr', RepLs K F H (ls.set k l) (vs.set k y) fr' ∧ (∀ a ∈ fr', a ∈ fr ∨ a ∈ fl) ∧ fr'.Nodup
  | [], vs, fr, k, l, y, fl, h, hk, r, nd => by simp at hk
  | m :: ls, vs, fr, k, l, y, fl, h, hk, r, nd => by
    obtain ⟨v, rr, f1, f2, rfl, h1, h2, rfl⟩ := h
    cases k with
    | zero =>
      refine ⟨fl ++ f2, ⟨y, rr, fl, f2, rfl, r, h2, rfl⟩, fun a ha => ?_, ?_⟩
      · rcases List.mem_append.mp ha with z | z
        · exact .inr z
        · exact .inl (by simp [z])
      · have q1 := (List.nodup_append.mp nd)
        have q2 := List.nodup_append.mp q1.1
        refine List.nodup_append.mpr ⟨q1.2.1, q2.2.1, fun a ha b hb => ?_⟩
        exact fun z => q1.2.2 b (by simp [hb]) a ha z.symm
    | succ k =>
      have q1 := List.nodup_append.mp nd
      have q2 := List.nodup_append.mp q1.1
      obtain ⟨fr', e1, e2, e3⟩ := RepLs.set h2 (k := k) (by simpa using hk) r (List.nodup_append.mpr ⟨q2.2.1, q1.2.1, fun a ha b hb => q1.2.2 a (by simp [ha]) b hb⟩)
      refine ⟨f1 ++ fr', ⟨v, rr.set k y, f1, fr', rfl, h1, e1, rfl⟩, fun a ha => ?_, ?_⟩
      · rcases List.mem_append.mp ha with z | z
        · exact .inl (by simp [z])
        · rcases e2 a z with z | z
          · exact .inl (by simp [z])
          · exact .inr z
      · refine List.nodup_append.mpr ⟨q2.1, e3, fun a ha b hb => ?_⟩
        rcases e2 b hb with z | z
        · exact q2.2.2 a ha b z
        · exact q1.2.2 a (by simp [ha]) b z
theorem RepLs.snoc : ∀ {ls : List LV} {vs : List V} {fr : List Addr} {l : LV} {y : V} {fl : List Addr}, RepLs K F H ls vs fr → RepL K F H l y fl → RepLs K F H (ls ++ [l]) (vs ++ [y]) (fr ++ fl)
  | [], vs, fr, l, y, fl, h, r => by
    obtain ⟨rfl, rfl⟩ := h
    exact ⟨y, [], fl, [], rfl, r, ⟨rfl, rfl⟩, by simp⟩
  | m :: ls, vs, fr, l, y, fl, h, r => by
    obtain ⟨v, rr, f1, f2, rfl, h1, h2, rfl⟩ := h
    exact ⟨v, rr ++ [y], f1, f2 ++ fl, rfl, h1, h2.snoc r, by simp⟩
/-- an own list among attributes is written -/
theorem RepLs.write : ∀ {ls : List LV} {vs : List V} {fr : List Addr} {k : Nat} {l : List PV} {q : PV} {y : V}, RepLs K F H ls vs fr → fr.Nodup → ls[k]? = some (.own (.lst l)) → Rep K F q y →
    ∃ p xs, vs[k]? = some (.ref p) ∧ p ∈ fr ∧ H p = some (.lst xs) ∧ xs.length = l.length ∧ RepLs K F (upd H p (.lst (xs ++ [y]))) (ls.set k (.own (.lst (l ++ [q])))) vs fr
  | [], vs, fr, k, l, q, y, h, nd, e, r => by simp at e
  | m :: ls, vs, fr, k, l, q, y, h, nd, e, r => by
    obtain ⟨v, rr, f1, f2, rfl, h1, h2, rfl⟩ := h
    have q1 := List.nodup_append.mp nd
    cases k with
    | zero =>
      simp at e
      subst e
      obtain ⟨p, rfl, ⟨xs, hp, rx⟩, rfl⟩ := h1
      refine ⟨p, xs, rfl, by simp, hp, rx.length.symm, .ref p, rr, [p], f2, rfl, ⟨p, rfl, ⟨xs ++ [y], upd_same, rx.append (.cons r .nil)⟩, rfl⟩, h2.frame (Same.refl F) fun a ha => ?_, rfl⟩
      exact upd_ne fun z => q1.2.2 p (by simp) a ha z.symm
    | succ k =>
      obtain ⟨p, xs, e1, e2, e3, e4, e5⟩ := RepLs.write h2 q1.2.1 (k := k) (by simpa using e) r
      refine ⟨p, xs, by simpa using e1, by simp [e2], e3, e4, v, rr, f1, f2, rfl, h1.frame (Same.refl F) fun a ha => ?_, e5, rfl⟩
      exact upd_ne fun z => q1.2.2 a ha p e2 z
end
section
variable {C : Cb} {F H : Hp} {ρ : Env} {σ : L2.St} {i : Nat} {c : Str} {ns : List Str} {ls : List LV}
end
section
variable {C : Cb} {Φ : Nat → List LV → CR} {W : WX} {pr : List Nat} {n : Nat} {X : Cx} {e value : Expr} {es : List Expr} {pos pos' p p2 : Pos} {x y f g c : Str} {ns : List Str} {i j k kg : Nat} {o : Op} {ir : Ex}
theorem ResR.grow {K : PySem.W.Frag} {F H : Hp} {nw : Bool} {r : PV} {v : V} {H' : Hp} (h : ResR K F H nw r v H') : ∀ b u, H b = some u → H' b = some u := fun b u e => by
  rcases h with ⟨rfl, h, _⟩ | ⟨a, o, n, rfl, rfl, h⟩ | ⟨a, xs, l, n, rfl, rfl, rfl, h⟩ | ⟨a, xs, o, l, n, rfl, rfl, hd, rfl, h⟩ | ⟨a, ys, l, n, rfl, rfl, rfl, hk, h⟩
  · exact e
  all_goals
    rw [upd_ne (ne_of_none e n)]
    exact e
end
section
variable {P : Program} {w : World} {K : PySem.W.Frag} {mg : Str → Option Value} {base : Heap} {c m qual : Str} {st : Stmt} {N ps : List Str} {k n : Nat} {Φ : Nat → List LV → CR} {f : Addr}
end
end Br
set_option maxHeartbeats 1000000
/-! BrY1: methods that read alone; attributes that are lists, written item by item. -/
namespace Br
open PySem PySem.Spec PyProof.Rows L2
section
variable {C : Cb} {Φ : Nat → List LV → CR} {W : WX} {pr : List Nat} {n : Nat} {X : Cx} {e value : Expr} {es : List Expr} {pos pos' p p2 : Pos} {x y f g c m : Str} {ns ps : List Str} {i j k kk : Nat} {ir : Ex} {irs : List Arg}
/-! ### a call of a method that reads alone -/
/-! ### an attribute's list is written -/
end
end Br
set_option maxHeartbeats 1000000
/-! BrY2: tuples of ints among the module's names. -/
namespace Br
open PySem PySem.Spec PyProof.Rows L2
section
variable {C : Cb} {Φ : Nat → List LV → CR} {W : WX} {X : Cx} {p : Pos} {x : Str}
end
section
variable {C : Cb} {Φ : Nat → List LV → CR} {W : WX} {X : Cx} {pos p : Pos} {a b c : Expr} {ia ib ic : Arg}
theorem pl2 (he2 : starEach [b, c] X.env = (false, eval b X.env) :: starEach [c] X.env) (he3 : starEach [c] X.env = (false, eval c X.env) :: starEach [] X.env) : (backTo pos (starEach [b, c] X.env)).any (·.1) = false := by rw [he2, he3]; rfl
end
end Br
set_option maxHeartbeats 4000000
/-! BrT1: tuples whose object is known; dict of pairs. -/
namespace Br
open PySem PySem.Spec PyProof.Rows L2
section
variable {X : Cx}
/-- tuple(l), the new object known -/
theorem call_tupX : CallR X (.type "tuple") (fun xs H Q => ∃ p ys, xs = [.ref p] ∧ ((SqL X.K H p ys ∧ ∀ l o, H l = none → o.dict = none → Q (.ref l) (upd H l (.frz o (.tup ys)))) ∨ (SqT X.K H p ys ∧ Q (.ref p) H))) := by
  intro pins s σ H xs us Q I r h
  obtain ⟨p, ys, rfl, h⟩ := h
  obtain ⟨u, rfl, rx⟩ := vals1 r
  cases rx
  rcases h with ⟨hq, q⟩ | ⟨hq, q⟩
  · obtain ⟨its, r', pl, hz⟩ := I.list hq
    have hlen := r'.length
    refine call_tuple_list pl.isList (fun h' kp => ?_) (by simp only [List.size_toArray] <;> omega)
    have I1 : L2.Inv X pins σ H { s with heap := h' } := I.kept (t' := s.toks) kp
    let ob : Obj := { cls := .type "tuple", data := .seq its.toArray }
    have I2 : L2.Inv X pins σ (upd H h'.objs.size (.frz ob (.tup ys))) { s with heap := h'.push ob } :=
      I1.laid (t' := s.toks) (fun b o e => Heap.get?_push_of_some _ e) (Nat.le_refl _) ⟨Heap.get?_push_size _ rfl, hz, its, r', IsTup.new _ _⟩
    exact ⟨.ref h'.objs.size, _, I2, rfl, q _ ob (I1.hok.fresh (Nat.le_refl _)) rfl⟩
  · obtain ⟨its, r', pl, hz⟩ := I.tuple hq
    exact call_tuple_same pl ⟨.ref p, H, I, rfl, q⟩
theorem cr_tupleX : CallR X (.type "tuple") (RCof X.K .tupleX) := by
  refine CallR.imp call_tupX fun xs H Q h => ?_
  obtain ⟨x, F, p, r, rfl, e, h1, ho, q⟩ := rOp_oneR h (len1 rfl fun a b c => by cases a <;> rfl)
  simp only [opSem] at ho
  unfold tupleXP at ho
  split at ho
  · rename_i a hl
    cases hl
    cases ho
    obtain ⟨c, xs, rfl, hc, rc⟩ := h1
    exact ⟨c, xs, rfl, .inl ⟨hc.sql, fun l o hl hd => q _ _ (.inr (.inr (.inr (.inl ⟨l, xs, o, a, hl, rfl, rfl, hd, rfl, rc⟩))))⟩⟩
  · rename_i a hl
    cases hl
    cases ho
    obtain ⟨c, xs, o, rfl, hc, hd, rc⟩ := h1
    exact ⟨c, xs, rfl, .inr ⟨.inl (.inr ⟨o, e _ _ hc⟩), q _ _ (.inl ⟨rfl, ⟨c, xs, o, rfl, hc, hd, rc⟩, fun _ => rfl⟩)⟩⟩
  · cases ho
/-- dict(t) of a tuple of pairs, its object known -/
theorem call_dictT (hcalm : X.calm = true) : CallR X (.type "dict") (fun xs H Q => ∃ (a : Addr) (o : Obj) (ps : List Addr) (kvs : List (Key × V)), xs = [.ref a] ∧ H a = some (.frz o (.tup (ps.map V.ref))) ∧ o.dict = none ∧ Paired (fun p kv => SqT X.K H p [kV kv.1, kv.2]) ps kvs ∧
    ∀ p, H p = none → Q (.ref p) (upd H p (.dK (mergeK [] kvs)))) := by
  intro pins s σ H xs us Q I r q
  obtain ⟨a, o, ps, kvs, rfl, hq, hd, hp, q⟩ := q
  obtain ⟨u, rfl, rx⟩ := vals1 r
  cases rx
  obtain ⟨ho, hz, its, rv, o', ho', hc, n, hdat⟩ := I.hok a _ hq
  rw [ho] at ho'
  cases ho'
  have ei := refs_at rv
  subst ei
  rw [List.length_map] at hz
  obtain ⟨prs, rel, hl, hpr⟩ := pairs_of I hp
  have hlen : (mergeK [] kvs).length ≤ sizeLine := by
    refine Nat.le_trans (length_mergeK kvs []) ?_
    rw [List.length_nil, Nat.zero_add, rel.length, hl]
    exact hz
  classical
  -- the pairs, by their own first items
  have key : ∀ j : Nat, ∃ u : Value, ∀ q : Key × Value, prs[j]? = some q → ∃ b, ps[j]? = some b ∧ IsTup s.heap b #[u, q.2] ∧ keyIs q.1 u = true := fun j => by
    cases e : prs[j]? with
    | none => exact ⟨.none, fun q z => by cases z⟩
    | some q =>
      obtain ⟨b, u, e1, e2, e3⟩ := hpr j q e
      exact ⟨u, fun q' z => by cases z; exact ⟨b, e1, e2, e3⟩⟩
  let ks : Nat → Value := fun j => Classical.choose (key j)
  have hks : ∀ j, ∀ q : Key × Value, prs[j]? = some q → ∃ b, ps[j]? = some b ∧ IsTup s.heap b #[ks j, q.2] ∧ keyIs q.1 (ks j) = true := fun j => Classical.choose_spec (key j)
  let vps : List (Value × Value) := prs.mapIdx fun j q => (ks j, q.2)
  have vlen : vps.length = prs.length := by simp [vps]
  have vget : ∀ (j : Nat) (k v : Value), vps[j]? = some (k, v) → ∃ q, prs[j]? = some q ∧ k = ks j ∧ v = q.2 := fun j k v e => by
    simp only [vps, List.getElem?_mapIdx, Option.map_eq_some_iff] at e
    obtain ⟨q, e1, e2⟩ := e
    cases e2
    exact ⟨q, e1, rfl, rfl⟩
  let Ts : Nat → Addr := fun j => ps.getD j 0
  have items : PairItems s.heap (ps.map Value.ref).toArray Ts vps := by
    refine ⟨by simp [vlen, hl], fun j k v e => ?_⟩
    obtain ⟨q, e1, rfl, rfl⟩ := vget j k v e
    obtain ⟨b, e2, e3, _⟩ := hks j q e1
    have eb : Ts j = b := by simp [Ts, List.getD, e2]
    rw [eb]
    exact ⟨by simp [e2], .inl e3⟩
  refine call_dict_pairs (knd := mixKind X.prog X.w) (kvs := prs) (PairArg.tuple a (ps.map Value.ref).toArray Ts vps) (I.ok.hd hcalm) ⟨⟨o, n, ho, hc, hd, hdat⟩, items⟩ ⟨vlen.symm, fun i k v e => ?_⟩ (by rw [vlen, hl]; exact hz) fun h' tk hd' k => ?_
  · obtain ⟨q, e1, rfl, rfl⟩ := vget i k v e
    obtain ⟨b, _, _, e3⟩ := hks i q e1
    exact ⟨q.1, e1, e3⟩
  · have hm : (s.heap.objs.size == sysModules) = false := beq_eq_false_iff_ne.mpr (Nat.ne_of_gt I.big)
    exact ⟨.ref s.heap.objs.size, upd H s.heap.objs.size (.dK (mergeK [] kvs)), I.laid (t' := tk) (fun b o e => k b o (by simp) e) (Nat.le_refl _) (show ObjOk X.prog X.w _ _ _ (.dK (mergeK [] kvs)) from ⟨hlen, hm, merged [] prs, KV.merge rel .nil, hd'⟩), rfl, q _ (I.hok.fresh (Nat.le_refl _))⟩
end

/-! ### what dict() makes of pairs -/
theorem keyP_kV {K : PySem.W.Frag} {F : Hp} {k : PV} {key : Key} {v : V} (h : keyP k = some key) (r : Rep K F k v) : v = kV key := by
  cases k with
  | int i => cases h; exact r
  | str i => cases h; exact r
  | _ => cases h
/-- the pairs' items in the heap -/
theorem pairsK_ok {K : PySem.W.Frag} {F H : Hp} (e : Same F H) : ∀ {l : List PV} {xs : List V} {r : List (Key × PV)}, pairsK l = some r → Reps K F l xs → ∃ (ps : List Addr) (kvs : List (Key × V)), xs = ps.map V.ref ∧ Paired (fun p kv => SqT K H p [kV kv.1, kv.2]) ps kvs ∧ kvs.map (·.1) = r.map (·.1) ∧ Reps K F (r.map (·.2)) (kvs.map (·.2))
  | [], xs, r, h, hr => by
    cases h
    have : xs = [] := hr
    subst this
    exact ⟨[], [], rfl, .nil, rfl, .nil⟩
  | p :: l, xs, r, h, hr => by
    obtain ⟨x, xs', rfl, h1, h2⟩ := hr
    unfold pairsK at h
    split at h
    · rename_i heq
      cases heq
    · rename_i k v l' heq
      cases heq
      split at h
      · rename_i key r' hk hr'
        cases h
        obtain ⟨ps, kvs, rfl, g1, g2, g3⟩ := pairsK_ok e hr' h2
        obtain ⟨a, ys, rfl, ha, y1, t1, rfl, ry, y2, t2, rfl, rz, rt⟩ := h1
        have : t2 = [] := rt
        subst this
        have hy := keyP_kV hk ry
        subst hy
        exact ⟨a :: ps, (key, y2) :: kvs, rfl, .cons (.inl (.inl (e _ _ ha))) g1, by simp [g2], .cons rz g3⟩
      · cases h
    · cases h
theorem dmk_rep {K : PySem.W.Frag} {F : Hp} : ∀ (r : List (Key × PV)) (kvs : List (Key × V)) (ks : List Key) (vs : List PV) (acc : List (Key × V)), kvs.map (·.1) = r.map (·.1) → Reps K F (r.map (·.2)) (kvs.map (·.2)) → ∀ ws : List V, acc = ks.zip ws → ks.length = ws.length → ks.Nodup → Reps K F vs ws →
    ∃ ks' vs' ws', dmk r ks vs = .dK ks' vs' ∧ mergeK acc kvs = ks'.zip ws' ∧ ks'.length = ws'.length ∧ ks'.Nodup ∧ Reps K F vs' ws'
  | [], kvs, ks, vs, acc, h1, h2, ws, ha, hl, nd, rr => by
    subst ha
    have : kvs = [] := by simpa using h1
    subst this
    exact ⟨ks, vs, ws, rfl, rfl, hl, nd, rr⟩
  | q :: r, kvs, ks, vs, acc, h1, h2, ws, ha, hl, nd, rr => by
    subst ha
    cases kvs with
    | nil => simp at h1
    | cons kv kvs =>
      simp only [List.map_cons, List.cons.injEq] at h1
      obtain ⟨x, r', e2, h3, h4⟩ := (show Reps K F (q.2 :: r.map (·.2)) (kv.2 :: kvs.map (·.2)) from h2)
      cases e2
      obtain ⟨ws1, g1, g2, g3⟩ := put_zip (k := q.1) h3 rr hl nd
      obtain ⟨ks', vs', ws', e1, e3, e4, e5, e6⟩ := dmk_rep r kvs (putKs q.1 ks) (putVs q.1 q.2 ks vs) (putK (ks.zip ws) kv.1 kv.2) h1.2 h4 ws1 (by rw [h1.1]; exact g1) g2 (putKs_nd nd) g3
      exact ⟨ks', vs', ws', e1, e3, e4, e5, e6⟩
section
variable {X : Cx}
theorem cr_dict1 (hc : X.calm = true) : CallR X (.type "dict") (RCof X.K .dict1) := by
  have fin : ∀ {F H : Hp} {r : List (Key × PV)} {kvs : List (Key × V)} {Q : VK} {l : List PV}, Same F H → (∀ v H', ResR X.K F H true (dmk r [] []) v H' → Q v H') → kvs.map (·.1) = r.map (·.1) → Reps X.K F (r.map (·.2)) (kvs.map (·.2)) → ∀ p, H p = none → Q (.ref p) (upd H p (.dK (mergeK [] kvs))) := fun {F H r kvs Q l} e q g2 g3 p hp => by
    obtain ⟨ks', vs', ws', e1, e2, e3, e4, e5⟩ := dmk_rep r kvs [] [] [] g2 g3 [] rfl rfl List.nodup_nil .nil
    refine q _ _ (.inr (.inl ⟨p, _, hp, rfl, rfl, ?_⟩))
    rw [e1, e2]
    exact ⟨ws', upd_same, e3, e4, e5⟩
  refine fun pins s σ H xs us Q I rr h => ?_
  obtain ⟨x, F, p, r, rfl, e, h1, ho, q⟩ := rOp_oneR h (len1 rfl fun a b c => by cases a <;> rfl)
  simp only [opSem] at ho
  unfold dict1P at ho
  split at ho
  · cases ho
  · rename_i l hl
    cases hl
    split at ho
    · obtain ⟨r', hr', rfl⟩ := Option.map_eq_some_iff.mp ho
      obtain ⟨c, xs, o, rfl, hc1, hd, rc⟩ := h1
      obtain ⟨ps, kvs, rfl, g1, g2, g3⟩ := pairsK_ok e hr' rc
      exact call_dictT hc pins s σ H _ us Q I rr ⟨c, o, ps, kvs, rfl, e _ _ hc1, hd, g1, fin (l := l) e q g2 g3⟩
    · cases ho
  · rename_i l hl
    cases hl
    split at ho
    · obtain ⟨r', hr', rfl⟩ := Option.map_eq_some_iff.mp ho
      obtain ⟨c, xs, rfl, hc1, rc⟩ := h1
      obtain ⟨ps, kvs, rfl, g1, g2, g3⟩ := pairsK_ok e hr' rc
      exact call_dictP hc pins s σ H _ us Q I rr ⟨c, ps, kvs, rfl, hc1.sql, g1, fin (l := l) e q g2 g3⟩
    · cases ho
  · cases ho
end
section
variable {C : Cb} {Φ : Nat → List LV → CR} {W : WX} {X : Cx} {a : Expr} {ia : Arg} {pos p : Pos}
theorem boot_dict : bootBuiltins "dict" = some (.type "dict") := by decide +kernel
theorem f_tupleX (o : XO X C) (hg : Gl X "tuple") (hm : X.mg "tuple" = none) (ha : PE X a (tA1 C Φ W ia)) (he : starEach [a] X.env = (false, eval a X.env) :: starEach [] X.env := by rfl) : PE X (.Call (.Name "tuple" p) [a] [] pos) (tO C Φ W .tupleX [ia]) := o_ty (cc o cr_tupleX) hg hm PyProof.Rows.boot_tuple (as1 ha he) (by decide) (by decide) he rfl
theorem f_dict (o : XC X C) (hg : Gl X "dict") (hm : X.mg "dict" = none) (ha : PE X a (tA1 C Φ W ia)) (he : starEach [a] X.env = (false, eval a X.env) :: starEach [] X.env := by rfl) : PE X (.Call (.Name "dict" p) [a] [] pos) (tO C Φ W .dict1 [ia]) := o_ty (cc o.toXO (cr_dict1 o.calm)) hg hm boot_dict (as1 ha he) (by decide) (by decide) he rfl
end
end Br
set_option maxHeartbeats 2000000
/-! BrU1: dicts whose keys are tuples. -/
namespace Br
open PySem PySem.Spec PyProof.Rows L2
section
variable {C : Cb} {Φ : Nat → List LV → CR} {W : WX} {X : Cx} {a b c e : Expr} {es : List Expr} {pos p : Pos} {x : Str} {ia ib ic : Arg}
theorem pe_dnewX : PE X (.Dict [] [] pos) (fun _ H Q => ∀ p, H p = none → Q (.ref p) (upd H p (dxO p []))) := ⟨fun pins s σ H Q I h =>
  wpAny_Dict_empty ⟨.ref s.heap.objs.size, _, I.laid (a := s.heap.objs.size) (o := dxO s.heap.objs.size []) (t' := s.toks) (fun _ _ q => Heap.get?_push_of_some _ q) (Nat.le_refl _)
    (dx_new (P := X.prog) (w := X.w) (xs := []) (Nat.zero_le _) (beq_eq_false_iff_ne.mpr (Ne.symm (Nat.ne_of_lt I.big))) (fun _ hp => by cases hp) .nil ⟨_, #[], 0, Heap.get?_push_size _ rfl, ⟨rfl, rfl, rfl⟩, rfl, rfl, (fun _ hp => by cases hp), List.nodup_nil⟩), rfl, h _ (I.hok.fresh (Nat.le_refl _))⟩⟩
theorem l_dnewX : PE X (.Dict [] [] pos) (tL' C Φ W .dnewX) := pe_dnewX.weak fun σ H Q q => by
  obtain ⟨ρ, F, s, q⟩ := q
  exact fun p hf => q F _ _ (Same.refl F) (s.pushNew hf ⟨[], [], upd_same, rfl, rfl, rfl, List.nodup_nil, .nil, .nil⟩)
theorem ix_dictX (hu : X.A.units + 20 < cLine) : IxR X (fun x y H Q => ∃ a v, x = .ref a ∧ DGetX H a y (some v) ∧ Q v H) := by
  intro value slice pins s σ H x y v u Q I rx ry h hs
  obtain ⟨a, w, rfl, g, q⟩ := h
  cases rx
  have hT := dictX_typeIs I g
  unfold subscriptTail
  refine wpAny_bind ?_
  rw [getitemInPython_of_ne hT.not_modules]
  refine wpAny_bind (wpAny_specialOf hT PySem.F.slot_dict_getitem.lookup ?_)
  have fin : wpAny (model X.prog X.w) X.A (subscripted slice false (.ref a) u) (fun r s₃ => wpAny (model X.prog X.w) X.A (letTemporaryGo value (.ref a) r >>= fun _ => pure r) (EP X pins σ Q) X.xe s₃) X.xe s := by
    rw [hs]
    exact wpAny_operating (d_getItemX hu I g ry fun w' s' I' rw' => wpAny_bind (wpAny_letTemporaryGo (wpAny_pure ⟨w, H, I', rw', q⟩)))
  first
    | exact wpAny_pure (wpAny_bind fin)
    | exact wpAny_bind (wpAny_pure (wpAny_bind fin))
    | exact wpAny_bind fin
/-- what a key finds -/
theorem getX_rep {K : PySem.W.Frag} {F H : Hp} (e : Same F H) {p : PV} {x y : V} {ks vs : List PV} (h1 : RepR K F H (.dX ks vs) x) (h2 : RepR K F H p y) (hk : p.kok = true) :
    ∃ a o, x = .ref a ∧ DGetX H a y o ∧ (∀ q, findK p.kq (ks.map PV.kq) vs = some q → ∃ v, o = some v ∧ Rep K F q v) ∧ (findK p.kq (ks.map PV.kq) vs = none → o = none) ∧ o.isSome = hasK p.kq (ks.map PV.kq) := by
  obtain ⟨a, bs, xs, rfl, hr, hl1, hl2, hok, nd, rk, rv⟩ := h1
  have h2' : Rep K F p y := by
    cases p with
    | tup l => exact h2
    | xt l => exact h2
    | _ => cases hk
  obtain ⟨n1, n2, n3, b, rfl⟩ := h2'.kok e hk
  have hm1 : (ks.map PV.kq).length = bs.length := by rw [List.length_map]; exact hl1
  have hm2 : (ks.map PV.kq).length = xs.length := by rw [List.length_map]; exact hl2
  refine ⟨a, valV ((ks.map PV.kq).zip xs) p.kq, rfl, ⟨_, p.kq, b, hr, zip3_keys e rk hok, rfl, n1, n2, by rw [keysX_zip hm1]⟩, fun q hq => find_some rv hq, fun hq => find_none rv hm2 hq, hasK_val hm2⟩
theorem ir_idxT (hu : X.A.units + 20 < cLine) : IxR X (R2of X.K .idxT) := by
  refine IxR.pick fun pins s σ H x y Q I h => ?_
  obtain ⟨F, ps, r, e, hb, ho, q⟩ := h
  obtain ⟨p, t, rfl, h1, h2⟩ := hb.twoR
  simp only [opSem] at ho
  unfold idxTP at ho
  split at ho
  · rename_i ks vs l hab
    cases hab
    obtain ⟨k, hk, hf⟩ := Option.bind_eq_some_iff.mp ho
    obtain ⟨c, xs, rfl, hc, hl, nd, rc⟩ := h1
    obtain ⟨b, ys, rfl, hb, ry⟩ := h2
    have hy := keysT_eq hk ry
    subst hy
    obtain ⟨v, hv, rv⟩ := find_some rc hf
    exact ⟨_, ix_dict (by omega), c, v, rfl, .inr ⟨_, k, b, hc, rfl, e _ _ hb, hv.symm⟩, q _ _ (.any rv)⟩
  · rename_i ks vs p' hab
    cases hab
    split at ho
    · rename_i hk
      obtain ⟨a, o, rfl, g, f1, _, _⟩ := getX_rep e h1 h2 hk
      obtain ⟨v, rfl, rv⟩ := f1 _ ho
      exact ⟨_, ix_dictX hu, a, v, rfl, g, q _ _ (.any rv)⟩
    · cases ho
  · cases ho
theorem o_ixT (o : XO X C) {ia ib : Arg} (ha : PE X a (tA1 C Φ W ia)) (hb : PE X b (tA1 C Φ W ib)) (hs : PlainIx b := by intro _ _; rfl) : PE X (.Subscript a b pos) (tO C Φ W .idxT [ia, ib]) :=
  (pe_ix (ir_idxT (by have := o.un; omega)) ha hb hs).weak fun _ _ _ q => by rw [← o.K]; exact tO_2 q
theorem RepO.threeR {K : PySem.W.Frag} {F H : Hp} {b : Bool} {ps : List PV} {x y z : V} (h : RepO K F H b ps [x, y, z]) (hb : b = true := by rfl) : ∃ p q r, ps = [p, q, r] ∧ RepR K F H p x ∧ RepR K F H q y ∧ RepR K F H r z := by subst hb; exact RepRs.three h
theorem dgetT_ok {K : PySem.W.Frag} {H : Hp} {x y z : V} {Q : VK} (h : rOp K .dgetT [x, y, z] H Q) : ∃ a o, x = .ref a ∧ (DGet H a y o ∨ DGetX H a y o) ∧ Q (o.getD z) H := by
  obtain ⟨F, ps, r, e, hb, ho, q⟩ := h
  obtain ⟨p, t, d, rfl, h1, h2, h3⟩ := hb.threeR
  simp only [opSem] at ho
  unfold dgetTP at ho
  split at ho
  · rename_i ks vs l d' hab
    cases hab
    obtain ⟨k, hk, rfl⟩ := Option.map_eq_some_iff.mp ho
    obtain ⟨c, xs, rfl, hc, hl, nd, rc⟩ := h1
    obtain ⟨b, ys, rfl, hb, ry⟩ := h2
    have hy := keysT_eq hk ry
    subst hy
    refine ⟨c, _, rfl, .inl (show DGet _ c _ _ from .inr ⟨_, k, b, hc, rfl, e _ _ hb, rfl⟩), ?_⟩
    cases hf : findK k ks vs with
    | some p =>
      obtain ⟨v, hv, rv⟩ := find_some rc hf
      rw [hv]
      rw [hf] at q
      exact q _ _ (.any rv)
    | none =>
      rw [find_none rc hl hf]
      rw [hf] at q
      rw [show z = V.int d' from h3]
      exact q _ _ .int
  · rename_i ks vs p' d' hab
    cases hab
    split at ho
    · rename_i hk
      cases ho
      obtain ⟨a, o, rfl, g, f1, f2, _⟩ := getX_rep e h1 h2 hk
      refine ⟨a, o, rfl, .inr g, ?_⟩
      cases hf : findK t.kq (ks.map PV.kq) vs with
      | some p =>
        obtain ⟨v, rfl, rv⟩ := f1 _ hf
        rw [hf] at q
        exact q _ _ (.any rv)
      | none =>
        rw [f2 hf]
        rw [hf] at q
        rw [show z = V.int d' from h3]
        exact q _ _ .int
    · cases ho
  · cases ho
/-- a dict of one or the other sort -/
def IsDX (H : Hp) (a : Addr) : Prop := IsD H a ∨ ∃ kvs, Rd H a (dxO a kvs)
theorem isDX_at {pins : List (Addr × Obj)} {σ : L2.St} {H : Hp} {s : Shared} {a : Addr} (I : Inv X pins σ H s) (d : IsDX H a) :
    s.TypeIs (.ref a) "dict" ∧ (∀ b, Value.ref a = .ref b → ∃ ob, s.heap.get? b = some ob ∧ ob.dict = none) := by
  rcases d with d | ⟨kvs, e⟩
  · obtain ⟨h1, h2, _⟩ := isD_at I d
    exact ⟨h1, h2⟩
  · obtain ⟨⟨z, hd, hi, xs, r, o, es, ep, h1, h2, h3, h4, h5⟩, _⟩ := (show ObjOk X.prog X.w H s.heap a (dxO a kvs) from rd_of I.hok e)
    refine ⟨⟨o, h1, h2.1⟩, fun b q => ?_⟩
    cases q
    exact ⟨o, h1, h2.2.1⟩
theorem pe_dget2X {o e f : Expr} {apos cpos : Pos} {td ty tx : TE} (hu : X.A.units + 20 < cLine) (ho : PE X o td) (he : PE X e ty) (hf : PE X f tx) (m : M2 X o "get" apos e f cpos) : PE X (.Call (.Attribute o "get" apos) [e, f] [] cpos)
    (fun σ H Q => td σ H fun x H1 => ∃ a, x = .ref a ∧ IsDX H1 a ∧ ty σ H1 fun y H2 => tx σ H2 fun z H3 => ∃ o, (DGet H3 a y o ∨ DGetX H3 a y o) ∧ Q (o.getD z) H3) := by
  refine ⟨fun pins s σ H Q I h => ?_⟩
  refine wpAny_Call_method m.base m.few m.line PySem.F.plainAttrs_dict PySem.F.slot_dict_get PySem.F.type_dict_get (thn (ho.run pins s σ H _ I h) fun u s1 ⟨x, H1, I1, rx, a, ex, d, q1⟩ => ?_)
  subst ex
  obtain rfl : u = Value.ref a := rx
  obtain ⟨t1, t2⟩ := isDX_at I1 d
  refine ⟨t1, t2, ?_⟩
  rw [m.trees]
  refine Calls.callWith_builtin rfl (Calls.evalArgs_plain (Calls.spliced_cons (thn (he.run pins s1 σ H1 _ I1 q1) fun iv s2 ⟨y, H2, I2, ry, q2⟩ =>
    Calls.spliced_cons (thn (hf.run pins s2 σ H2 _ I2 q2) fun fv s3 ⟨z, H3, I3, rz, ov, g, q3⟩ => Calls.spliced_nil ?_))))
  rcases g with g | g
  · exact d_get2 (by omega) I3 g ry rz fun w' s4 I4 rw' => ⟨_, H3, I4, rw', q3⟩
  · exact d_get2X hu I3 g ry rz fun w' s4 I4 rw' => ⟨_, H3, I4, rw', q3⟩
theorem m_dgetT (o : XO X C) {apos cpos : Pos} (ha : PE X a (tA1 C Φ W ia)) (hb : PE X b (tA1 C Φ W ib)) (hc : PE X c (tA1 C Φ W ic)) (m : M2 X a "get" apos b c cpos := by constructor <;> rfl) : PE X (.Call (.Attribute a "get" apos) [b, c] [] cpos) (tM C Φ W .dgetT ia [ib, ic]) :=
  (pe_dget2X (by have := o.un; omega) ha hb hc m).weak fun σ H Q q => by
    refine tA1.imp q fun x H1 k => ?_
    obtain ⟨⟨F, p, e, hr, hp⟩, k⟩ := k
    cases p with
    | dT ks l =>
      obtain ⟨a, xs, rfl, hh, _⟩ := hp
      refine ⟨a, rfl, .inl (.inr ⟨_, hh⟩), ?_⟩
      obtain ⟨ρ, F1, s1, k⟩ := tAs_cons k
      refine ⟨ρ, F1, s1, k.imp fun av ρ1 F2 H2 e2 s2 k2 y ry => ?_⟩
      obtain ⟨ρ2, F3, s3, k3⟩ := tAs_cons (k2 y ry)
      refine ⟨ρ2, F3, s3, k3.imp fun av ρ1 F2 H2 e2 s2 k2 z rz => ?_⟩
      have k4 := tAs_nil (k2 z rz)
      obtain ⟨a', o', ea, hg, hq⟩ := dgetT_ok (show rOp C.K .dgetT [.ref a, y, z] H2 Q from k4)
      cases ea
      exact ⟨o', hg, hq⟩
    | dX ks l =>
      obtain ⟨a, bs, xs, rfl, hh, _⟩ := hp
      refine ⟨a, rfl, .inr ⟨_, hh⟩, ?_⟩
      obtain ⟨ρ, F1, s1, k⟩ := tAs_cons k
      refine ⟨ρ, F1, s1, k.imp fun av ρ1 F2 H2 e2 s2 k2 y ry => ?_⟩
      obtain ⟨ρ2, F3, s3, k3⟩ := tAs_cons (k2 y ry)
      refine ⟨ρ2, F3, s3, k3.imp fun av ρ1 F2 H2 e2 s2 k2 z rz => ?_⟩
      have k4 := tAs_nil (k2 z rz)
      obtain ⟨a', o', ea, hg, hq⟩ := dgetT_ok (show rOp C.K .dgetT [.ref a, y, z] H2 Q from k4)
      cases ea
      exact ⟨o', hg, hq⟩
    | _ => cases hr
end
end Br
set_option maxHeartbeats 2000000
/-! BrU2: sorted(d), d's keys tuples. -/
namespace Br
open PySem PySem.Spec PyProof.Rows L2
section
variable {X : Cx}
theorem keyQ_rep {K : PySem.W.Frag} {F : Hp} : ∀ k : List Key, Reps K F (k.map keyQ) (k.map kV)
  | [] => rfl
  | .inl i :: k => .cons rfl (keyQ_rep k)
  | .inr i :: k => .cons rfl (keyQ_rep k)
/-- the keys as data -/
theorem keys_each {K : PySem.W.Frag} {H : Hp} {kvs : List (List Key × V)} {bs : List Addr} (h : IsKeys H kvs bs) : Reps K H (kvs.map fun q => tupQ q.1) (bs.map V.ref) := by
  unfold IsKeys at h
  induction h with
  | nil => rfl
  | cons h t ih => exact .cons ⟨_, _, rfl, h, keyQ_rep _⟩ ih
theorem cr_sortK (hc : X.calm = true) (hu : X.A.units + 131 < cLine) : CallR X (.builtin "sorted") (fun xs H Q => ∃ d kvs, xs = [V.ref d] ∧ Rd H d (.dT kvs) ∧ sortOk (kvs.map fun q => tupQ q.1) = true ∧
    ∀ p ys, H p = none → Reps X.K H (sortD (kvs.map fun q => tupQ q.1)) ys → Q (.ref p) (upd H p (.lst ys))) := by
  intro pins s σ H xs us Q I r h
  obtain ⟨d, kvs, rfl, hd, hok, q⟩ := h
  obtain ⟨u, rfl, rx⟩ := r.one
  cases rx
  obtain ⟨z, hs, ks, pr, o, es, ep, ho, hx, hdt, he, hn⟩ := (show ObjOk X.prog X.w H s.heap d (.dT kvs) from hd.ok I.hok)
  have l1 : es.size = ks.length := size_of_entries he
  have l2 : kvs.length = ks.length := Paired.length pr
  refine Calls.call_function_entry PyProof.Rows.kind_sorted PyProof.Rows.plain_sorted PyProof.Rows.entry_sorted (PyProof.Rows.args_sorted1 _) ?_
  unfold Builtin.«sorted»
  refine wpAny_bind (m := checkCount "sorted" 1 1 _) (wpAny_pure ?_)
  refine wpAny_bind (PySem.W.kdu_collect (A := X.A.in1) (kdl_raw hs hx hdt) (I.ok.hd hc) ho (by omega) fun h' tk acc' kp it => ?_)
  have ea : acc'.toList = ks.map fun x => Value.ref x.2.1 := by
    have hl : acc'.toList.length = ks.length := by rw [Array.length_toList, it.1]; exact l1
    apply List.ext_getElem?
    intro j
    rw [List.getElem?_map]
    cases hj : acc'.toList[j]? with
    | none =>
      have h1 := List.getElem?_eq_none_iff.mp hj
      rw [List.getElem?_eq_none (by omega)]
      all_goals rfl
    | some v =>
      obtain ⟨en, hen, hv⟩ := it.2 j v (by rw [← Array.getElem?_toList]; exact hj)
      have qe := entry_at he j
      rw [hen] at qe
      cases hb : ks[j]? with
      | none =>
        rw [hb] at qe
        exact nomatch (show some en = none from qe)
      | some b =>
        rw [hb] at qe
        have e2 : en = entryOfKey (tupleKind (mixKind X.prog X.w)) b := Option.some.inj qe
        rw [hv, e2]
        all_goals rfl
  have eb : acc'.toList = (ks.map fun x => x.2.1).map Value.ref := by rw [ea, List.map_map]; all_goals rfl
  have rv : Vals ((ks.map fun x => x.2.1).map V.ref) acc'.toList := by rw [eb]; exact vals_refs _
  have hz : ((ks.map fun x => x.2.1).map V.ref).length ≤ sizeLine := by rw [List.length_map, List.length_map]; omega
  have hr : Reps X.K H (kvs.map fun q => tupQ q.1) ((ks.map fun x => x.2.1).map V.ref) := keys_each (isKeys_of pr)
  have I1 : Inv X pins σ H { s with heap := h', toks := tk } := I.kept kp
  generalize (ks.map fun x => x.2.1).map V.ref = xs at rv hz hr
  generalize (kvs.map fun q => tupQ q.1) = l at hok hr q
  generalize acc'.toList = its at rv
  have hlen : l.length = xs.length := hr.length
  have hil : its.length = xs.length := rv.length.symm
  unfold sortOk at hok
  simp only [Bool.and_eq_true] at hok
  obtain ⟨⟨⟨hdd, hal⟩, hk⟩, hlim⟩ := hok
  let bs := l.zip xs
  have hbl : bs.length = l.length := by simp [bs, hlen]
  have hfst : bs.map (·.1) = l := map_fst_zip' hlen
  have hmem : ∀ b ∈ bs, b.1 ∈ l := fun b hb => (List.of_mem_zip hb).1
  have e := each_zip hr rv
  have er : PySem.W.EachIs (fun v (b : PV × V) => ∃ as, Reads h' v (b.1.toD) as) its bs := each_mem2 e fun v b hb hR =>
    Dp.reads I1 _ b.2 v (Rep.dp0 59 _ _ (isD_mem (n := 59) hdd (hmem b hb)) hR.2) hR.1
  have hmD : ∀ d, d ∈ bs.map (fun b => b.1.toD) → ∃ p ∈ l, d = p.toD := fun d hd => by
    obtain ⟨b, hb, rfl⟩ := List.mem_map.mp hd
    exact ⟨b.1, hmem b hb, rfl⟩
  have hall : PySem.W.AllAlike (bs.map fun b => b.1.toD) := fun d hd d' hd' => by
    obtain ⟨p, hp, rfl⟩ := hmD d hd
    obtain ⟨p', hp', rfl⟩ := hmD d' hd'
    exact List.all_eq_true.mp (List.all_eq_true.mp hal p hp) p' hp'
  have hsrt : PySem.W.Sortable (bs.map fun b => b.1.toD) := by
    rcases Bool.or_eq_true_iff.mp hk with h | h
    · refine .inl fun d hd => ?_
      obtain ⟨p, hp, rfl⟩ := hmD d hd
      have h1 := List.all_eq_true.mp h p hp
      cases p with
      | tup m => cases m with
        | nil => cases h1
        | cons y m => exact ⟨y.toD, PV.toDs m, by rw [PV.toD, PV.toDs]⟩
      | xt m => cases m with
        | nil => cases h1
        | cons y m => exact ⟨y.toD, PV.toDs m, by rw [PV.toD, PV.toDs]⟩
      | _ => cases h1
    · refine .inr fun d hd' => ?_
      obtain ⟨p, hp, rfl⟩ := hmD d hd'
      have h1 := List.all_eq_true.mp h p hp
      have h2 := isD_mem (n := 59) hdd hp
      cases p with
      | non => cases h1
      | tup m => cases h1
      | bl b => exact ⟨by simp [PV.toD], by simp [PV.toD]⟩
      | int b => exact ⟨by simp [PV.toD], by simp [PV.toD]⟩
      | str b => exact ⟨by simp [PV.toD], by simp [PV.toD]⟩
      | lst b => exact ⟨by simp [PV.toD], by simp [PV.toD]⟩
      | xt b => cases h1
      | gt b => cases h1
      | _ => simp [PV.isD] at h2
  have hits : its.length ≤ sizeLine := by rw [hil]; exact hz
  refine wpAny_bind (wpAny_newList ?_ hits)
  have hoL : (h'.push (seqObj "list" its.toArray 0)).get? h'.objs.size = some (seqObj "list" its.toArray 0) := Heap.get?_push_size _ rfl
  show wpAny _ _ _ _ _ { s with heap := h'.push (seqObj "list" its.toArray 0), toks := tk }
  have er' : PySem.W.EachIs (fun v (b : PV × V) => ∃ as, Reads (PySem.W.sortingHeap (h'.push (seqObj "list" its.toArray 0)) h'.objs.size its) v (b.1.toD) as) its bs := er.mono fun v b ⟨as, r⟩ => ⟨as, PyProof.Rows.Reads.keeps (fun b o e => PySem.W.sortingHeap_old (Nat.ne_of_lt (Heap.lt_size e)) (Heap.get?_push_of_some _ e)) r⟩
  let bnd : ∀ d, d ∈ bs.map (fun b => b.1.toD) → X.A.units + 1 + 1 + d.depth < cLine := fun d hd => by
    obtain ⟨p, hp, rfl⟩ := hmD d hd
    have h1 := isD_depth 59 _ (isD_mem (n := 59) hdd hp)
    omega
  refine wpAny_bind (wpAny_holding (wpAny_call_entry PyProof.Rows.slot_list_sort ⟨_, hoL, rfl⟩ PyProof.Rows.entry_list_sort
    (PySem.W.list_sort_vals (κ := PySem.W.dataKind (PySem.W.sortingHeap (h'.push (seqObj "list" its.toArray 0)) h'.objs.size its) (bs.map fun b => b.1.toD)) hoL
      (PySem.W.SortsAt.data (s := { s with heap := PySem.W.sortingHeap (h'.push (seqObj "list" its.toArray 0)) h'.objs.size its, toks := tk }) (PySem.W.each_map (R := fun v d => ∃ as, Reads (PySem.W.sortingHeap (h'.push (seqObj "list" its.toArray 0)) h'.objs.size its) v d as) (fun b : PV × V => b.1.toD) er') hall hsrt bnd) hits ⟨.none, rfl, ?_⟩) (PyProof.Rows.args_list_sort _)))
  have hol := PySem.W.sortVals_length (κ := PySem.W.dataKind (PySem.W.sortingHeap (h'.push (seqObj "list" its.toArray 0)) h'.objs.size its) (bs.map fun b => b.1.toD)) false (ks := its) (vs := its) rfl
  have hout := PySem.W.sortVals_data (h' := PySem.W.sortingHeap (h'.push (seqObj "list" its.toArray 0)) h'.objs.size its) (R := fun v (b : PV × V) => RelV b.2 v ∧ Rep X.K H b.1 b.2) (enc := fun b : PV × V => b.1.toD) false e er' hall
  generalize PySem.W.sortVals (PySem.W.dataKind (PySem.W.sortingHeap (h'.push (seqObj "list" its.toArray 0)) h'.objs.size its) (bs.map fun b => b.1.toD)) false its its = out at hol hout
  · obtain ⟨v1, r1⟩ := each_out hout
    obtain ⟨e', he'⟩ := PyProof.Rows.sortedHeap_at (vs := its) (out := out.toArray) hoL
    have hst : (bs.mergeSort (PySem.W.dataLe false fun b : PV × V => b.1.toD)).map (·.1) = sortD l := by
      unfold sortD
      exact (List.map_mergeSort (r := PySem.W.dataLe false fun b : PV × V => b.1.toD) (s := leD) (f := fun x : PV × V => x.1) (l := bs) (fun a _ b _ => rfl)).trans (by rw [hfst])
    have hylen : ((bs.mergeSort (PySem.W.dataLe false fun b : PV × V => b.1.toD)).map (·.2)).length ≤ sizeLine := by
      rw [List.length_map, (List.mergeSort_perm _ _).length_eq, hbl, hlen]
      exact hz
    rw [hst] at r1
    refine wpAny_pure ⟨_, rfl, .ref h'.objs.size, upd H h'.objs.size (.lst ((bs.mergeSort (PySem.W.dataLe false fun b : PV × V => b.1.toD)).map (·.2))), I1.laid (t' := tk) (fun b u e => ?_) (Nat.le_refl _)
      (show ObjOk X.prog X.w _ _ _ (.lst _) from ⟨hylen, out, e', v1, he'⟩), rfl, q _ _ (I1.hok.fresh (Nat.le_refl _)) r1⟩
    have hb : b < h'.objs.size := Heap.lt_size e
    rw [PyProof.Rows.sortedHeap_old (Nat.ne_of_lt hb) (by rw [size_push']; exact Nat.lt_succ_of_lt hb)]
    exact Heap.get?_push_of_some _ e
theorem cr_sortDX (hc : X.calm = true) (hu : X.A.units + 131 < cLine) : CallR X (.builtin "sorted") (fun xs H Q => ∃ (d : Addr) (kvs : List (NestedKey × Addr × V)) (l : List PV) (F : Hp), xs = [V.ref d] ∧ Rd H d (dxO d kvs) ∧ NKs H kvs ∧ Same F H ∧ Reps X.K F l (kvs.map fun p => V.ref p.2.1) ∧ sortOk l = true ∧
    ∀ p ys, H p = none → Reps X.K F (sortD l) ys → Q (.ref p) (upd H p (.lst ys))) := by
  intro pins s σ H xs us Q I r h
  obtain ⟨d, kvs, l, F, rfl, hd, hnk, hF, hr, hok, q⟩ := h
  obtain ⟨u, rfl, rx⟩ := r.one
  cases rx
  obtain ⟨z, hs, _, ks, pr, o, es, ep, ho, hx, hdt, he, _, hn⟩ := dx_rd I.hok hd hnk
  have l1 : es.size = ks.length := size_of_entries he
  have l2 : kvs.length = ks.length := Paired.length pr
  refine Calls.call_function_entry PyProof.Rows.kind_sorted PyProof.Rows.plain_sorted PyProof.Rows.entry_sorted (PyProof.Rows.args_sorted1 _) ?_
  unfold Builtin.«sorted»
  refine wpAny_bind (m := checkCount "sorted" 1 1 _) (wpAny_pure ?_)
  refine wpAny_bind (PySem.W.kdu_collect (A := X.A.in1) (kdl_raw hs hx hdt) (I.ok.hd hc) ho (by omega) fun h' tk acc' kp it => ?_)
  have ea : acc'.toList = ks.map fun x => Value.ref x.2.1 := by
    have hl : acc'.toList.length = ks.length := by rw [Array.length_toList, it.1]; exact l1
    apply List.ext_getElem?
    intro j
    rw [List.getElem?_map]
    cases hj : acc'.toList[j]? with
    | none =>
      have h1 := List.getElem?_eq_none_iff.mp hj
      rw [List.getElem?_eq_none (by omega)]
      all_goals rfl
    | some v =>
      obtain ⟨en, hen, hv⟩ := it.2 j v (by rw [← Array.getElem?_toList]; exact hj)
      have qe := entry_at he j
      rw [hen] at qe
      cases hb : ks[j]? with
      | none =>
        rw [hb] at qe
        exact nomatch (show some en = none from qe)
      | some b =>
        rw [hb] at qe
        have e2 : en = entryOfKey (nestedKind X.prog X.w) b := Option.some.inj qe
        rw [hv, e2]
        all_goals rfl
  have eb : acc'.toList = (ks.map fun x => x.2.1).map Value.ref := by rw [ea, List.map_map]; all_goals rfl
  have rv : Vals ((ks.map fun x => x.2.1).map V.ref) acc'.toList := by rw [eb]; exact vals_refs _
  have hz : ((ks.map fun x => x.2.1).map V.ref).length ≤ sizeLine := by rw [List.length_map, List.length_map]; omega
  have hr : Reps X.K F l ((ks.map fun x => x.2.1).map V.ref) := by
    have : ∀ {l : List (NestedKey × Addr × V)} {m : List (NestedKey × Addr × Value)}, KX l m → (l.map fun p => V.ref p.2.1) = (m.map fun x => x.2.1).map V.ref := by
      intro l m q
      induction q with
      | nil => rfl
      | @cons p q ps qs hq t ih => rw [List.map_cons, List.map_cons, List.map_cons, ih, hq.2.1]
    rw [← this pr]
    exact hr
  have I1 : Inv X pins σ H { s with heap := h', toks := tk } := I.kept kp
  generalize (ks.map fun x => x.2.1).map V.ref = xs at rv hz hr
  generalize acc'.toList = its at rv
  have hlen : l.length = xs.length := hr.length
  have hil : its.length = xs.length := rv.length.symm
  unfold sortOk at hok
  simp only [Bool.and_eq_true] at hok
  obtain ⟨⟨⟨hdd, hal⟩, hk⟩, hlim⟩ := hok
  let bs := l.zip xs
  have hbl : bs.length = l.length := by simp [bs, hlen]
  have hfst : bs.map (·.1) = l := map_fst_zip' hlen
  have hmem : ∀ b ∈ bs, b.1 ∈ l := fun b hb => (List.of_mem_zip hb).1
  have e := each_zip hr rv
  have er : PySem.W.EachIs (fun v (b : PV × V) => ∃ as, Reads h' v (b.1.toD) as) its bs := each_mem2 e fun v b hb hR =>
    Dp.reads I1 _ b.2 v (Rep.dp0 59 _ _ (isD_mem (n := 59) hdd (hmem b hb)) (hR.2.mono hF)) hR.1
  have hmD : ∀ d, d ∈ bs.map (fun b => b.1.toD) → ∃ p ∈ l, d = p.toD := fun d hd => by
    obtain ⟨b, hb, rfl⟩ := List.mem_map.mp hd
    exact ⟨b.1, hmem b hb, rfl⟩
  have hall : PySem.W.AllAlike (bs.map fun b => b.1.toD) := fun d hd d' hd' => by
    obtain ⟨p, hp, rfl⟩ := hmD d hd
    obtain ⟨p', hp', rfl⟩ := hmD d' hd'
    exact List.all_eq_true.mp (List.all_eq_true.mp hal p hp) p' hp'
  have hsrt : PySem.W.Sortable (bs.map fun b => b.1.toD) := by
    rcases Bool.or_eq_true_iff.mp hk with h | h
    · refine .inl fun d hd => ?_
      obtain ⟨p, hp, rfl⟩ := hmD d hd
      have h1 := List.all_eq_true.mp h p hp
      cases p with
      | tup m => cases m with
        | nil => cases h1
        | cons y m => exact ⟨y.toD, PV.toDs m, by rw [PV.toD, PV.toDs]⟩
      | xt m => cases m with
        | nil => cases h1
        | cons y m => exact ⟨y.toD, PV.toDs m, by rw [PV.toD, PV.toDs]⟩
      | _ => cases h1
    · refine .inr fun d hd' => ?_
      obtain ⟨p, hp, rfl⟩ := hmD d hd'
      have h1 := List.all_eq_true.mp h p hp
      have h2 := isD_mem (n := 59) hdd hp
      cases p with
      | non => cases h1
      | tup m => cases h1
      | bl b => exact ⟨by simp [PV.toD], by simp [PV.toD]⟩
      | int b => exact ⟨by simp [PV.toD], by simp [PV.toD]⟩
      | str b => exact ⟨by simp [PV.toD], by simp [PV.toD]⟩
      | lst b => exact ⟨by simp [PV.toD], by simp [PV.toD]⟩
      | xt b => cases h1
      | gt b => cases h1
      | _ => simp [PV.isD] at h2
  have hits : its.length ≤ sizeLine := by rw [hil]; exact hz
  refine wpAny_bind (wpAny_newList ?_ hits)
  have hoL : (h'.push (seqObj "list" its.toArray 0)).get? h'.objs.size = some (seqObj "list" its.toArray 0) := Heap.get?_push_size _ rfl
  show wpAny _ _ _ _ _ { s with heap := h'.push (seqObj "list" its.toArray 0), toks := tk }
  have er' : PySem.W.EachIs (fun v (b : PV × V) => ∃ as, Reads (PySem.W.sortingHeap (h'.push (seqObj "list" its.toArray 0)) h'.objs.size its) v (b.1.toD) as) its bs := er.mono fun v b ⟨as, r⟩ => ⟨as, PyProof.Rows.Reads.keeps (fun b o e => PySem.W.sortingHeap_old (Nat.ne_of_lt (Heap.lt_size e)) (Heap.get?_push_of_some _ e)) r⟩
  let bnd : ∀ d, d ∈ bs.map (fun b => b.1.toD) → X.A.units + 1 + 1 + d.depth < cLine := fun d hd => by
    obtain ⟨p, hp, rfl⟩ := hmD d hd
    have h1 := isD_depth 59 _ (isD_mem (n := 59) hdd hp)
    omega
  refine wpAny_bind (wpAny_holding (wpAny_call_entry PyProof.Rows.slot_list_sort ⟨_, hoL, rfl⟩ PyProof.Rows.entry_list_sort
    (PySem.W.list_sort_vals (κ := PySem.W.dataKind (PySem.W.sortingHeap (h'.push (seqObj "list" its.toArray 0)) h'.objs.size its) (bs.map fun b => b.1.toD)) hoL
      (PySem.W.SortsAt.data (s := { s with heap := PySem.W.sortingHeap (h'.push (seqObj "list" its.toArray 0)) h'.objs.size its, toks := tk }) (PySem.W.each_map (R := fun v d => ∃ as, Reads (PySem.W.sortingHeap (h'.push (seqObj "list" its.toArray 0)) h'.objs.size its) v d as) (fun b : PV × V => b.1.toD) er') hall hsrt bnd) hits ⟨.none, rfl, ?_⟩) (PyProof.Rows.args_list_sort _)))
  have hol := PySem.W.sortVals_length (κ := PySem.W.dataKind (PySem.W.sortingHeap (h'.push (seqObj "list" its.toArray 0)) h'.objs.size its) (bs.map fun b => b.1.toD)) false (ks := its) (vs := its) rfl
  have hout := PySem.W.sortVals_data (h' := PySem.W.sortingHeap (h'.push (seqObj "list" its.toArray 0)) h'.objs.size its) (R := fun v (b : PV × V) => RelV b.2 v ∧ Rep X.K F b.1 b.2) (enc := fun b : PV × V => b.1.toD) false e er' hall
  generalize PySem.W.sortVals (PySem.W.dataKind (PySem.W.sortingHeap (h'.push (seqObj "list" its.toArray 0)) h'.objs.size its) (bs.map fun b => b.1.toD)) false its its = out at hol hout
  · obtain ⟨v1, r1⟩ := each_out hout
    obtain ⟨e', he'⟩ := PyProof.Rows.sortedHeap_at (vs := its) (out := out.toArray) hoL
    have hst : (bs.mergeSort (PySem.W.dataLe false fun b : PV × V => b.1.toD)).map (·.1) = sortD l := by
      unfold sortD
      exact (List.map_mergeSort (r := PySem.W.dataLe false fun b : PV × V => b.1.toD) (s := leD) (f := fun x : PV × V => x.1) (l := bs) (fun a _ b _ => rfl)).trans (by rw [hfst])
    have hylen : ((bs.mergeSort (PySem.W.dataLe false fun b : PV × V => b.1.toD)).map (·.2)).length ≤ sizeLine := by
      rw [List.length_map, (List.mergeSort_perm _ _).length_eq, hbl, hlen]
      exact hz
    rw [hst] at r1
    refine wpAny_pure ⟨_, rfl, .ref h'.objs.size, upd H h'.objs.size (.lst ((bs.mergeSort (PySem.W.dataLe false fun b : PV × V => b.1.toD)).map (·.2))), I1.laid (t' := tk) (fun b u e => ?_) (Nat.le_refl _)
      (show ObjOk X.prog X.w _ _ _ (.lst _) from ⟨hylen, out, e', v1, he'⟩), rfl, q _ _ (I1.hok.fresh (Nat.le_refl _)) r1⟩
    have hb : b < h'.objs.size := Heap.lt_size e
    rw [PyProof.Rows.sortedHeap_old (Nat.ne_of_lt hb) (by rw [size_push']; exact Nat.lt_succ_of_lt hb)]
    exact Heap.get?_push_of_some _ e
end
end Br
namespace Br
open PySem PySem.Spec PyProof.Rows L2
section
variable {C : Cb} {Φ : Nat → List LV → CR} {W : WX} {X : Cx} {a b c e : Expr} {es : List Expr} {pos p : Pos} {x : Str} {ia ib ic : Arg}
theorem tupQ_key : ∀ ks : List (List Key), (ks.map tupQ).all PV.keyTup = true := fun ks => by
  rw [List.all_map, List.all_eq_true]
  intro k _
  show (k.map keyQ).all PV.flat = true
  rw [List.all_map, List.all_eq_true]
  intro c _
  cases c <;> rfl
theorem cr_sortT (hc : X.calm = true) (hu : X.A.units + 131 < cLine) : CallR X (.builtin "sorted") (RCof X.K .sortT) := by
  refine CallR.pick fun pins s σ H xs Q I h => ?_
  obtain ⟨x, F, p, r, rfl, e, h1, ho, q⟩ := rOp_oneR h (len1 rfl fun a b c => by cases a <;> rfl)
  simp only [opSem] at ho
  unfold sortTP at ho
  split at ho
  · rename_i ks vs hl
    cases hl
    split at ho
    · rename_i hok
      cases ho
      obtain ⟨d, zs, rfl, hd, hlen, nd, rc⟩ := h1
      have hk : (ks.zip zs).map (fun q => tupQ q.1) = ks.map tupQ := by
        have h0 := map_fst_zip' hlen
        have h2 : (ks.zip zs).map (fun q => tupQ q.1) = ((ks.zip zs).map (·.1)).map tupQ := by rw [List.map_map]; rfl
        rw [h2, h0]
      refine ⟨_, cr_sortK hc hu, d, ks.zip zs, rfl, hd, by rw [hk]; exact hok, fun p ys hp hr => ?_⟩
      rw [hk] at hr
      refine q _ _ (.inr (.inr (.inr (.inr ⟨p, ys, _, hp, rfl, rfl, rfl, ?_, hr⟩))))
      rw [List.all_eq_true]
      intro z hz
      exact List.all_eq_true.mp (tupQ_key ks) z ((List.mergeSort_perm _ _).mem_iff.mp hz)
    · cases ho
  · rename_i ks vs hl
    cases hl
    split at ho
    · rename_i hok
      cases ho
      obtain ⟨d, bs, xs, rfl, hd, hl1, hl2, hkk, nd, rk, rv⟩ := h1
      have hm1 : (ks.map PV.kq).length = bs.length := by rw [List.length_map]; exact hl1
      have hb : ∀ {cs : List NestedKey} {bs : List Addr} {xs : List V}, cs.length = bs.length → cs.length = xs.length → ((cs.zip (bs.zip xs)).map fun p => V.ref p.2.1) = bs.map V.ref := by
        intro cs
        induction cs with
        | nil => intro bs xs h _; rw [List.eq_nil_of_length_eq_zero h.symm]; rfl
        | cons c cs ih =>
          intro bs xs h h2
          cases bs with
          | nil => cases h
          | cons b bs => cases xs with
            | nil => cases h2
            | cons x xs => rw [List.zip_cons_cons, List.zip_cons_cons, List.map_cons, List.map_cons, ih (by simpa using h) (by simpa using h2)]
      refine ⟨_, cr_sortDX hc hu, d, _, ks, F, rfl, hd, zip3_keys e rk hkk, e, by rw [hb hm1 (by rw [List.length_map]; exact hl2)]; exact rk, hok, fun p ys hp hr => ?_⟩
      exact q _ _ (.inr (.inl ⟨p, _, hp, rfl, rfl, ys, upd_same, hr⟩))
    · cases ho
  · cases ho
theorem f_sortT (o : XC X C) (hg : Gl X "sorted") (hm : X.mg "sorted" = none) (ha : PE X a (tA1 C Φ W ia)) (he : starEach [a] X.env = (false, eval a X.env) :: starEach [] X.env := by rfl) : PE X (.Call (.Name "sorted" p) [a] [] pos) (tO C Φ W .sortT [ia]) := o_blt (cc o.toXO (cr_sortT o.calm o.un)) hg hm boot_sorted (as1 ha he) (by decide) (by decide) he rfl
end
end Br
set_option maxHeartbeats 2000000
/-! BrV1: str(data) where nothing is under way; list(d.values()), sum(d.values()). -/
namespace Br
open PySem PySem.Spec PyProof.Rows L2
theorem intD_kv {K : PySem.W.Frag} {F : Hp} : ∀ (ks : List Key) (l : List PV) (qs : List (Int × Int)) (xs : List V), intD ks l = some qs → Reps K F l xs → ks.zip xs = qs.map fun q => ((.inl q.1 : Key), V.int q.2)
  | [], [], qs, xs, h, _ => by
    cases h
    rfl
  | .inl k :: ks, .int v :: l, qs, xs, h, r => by
    unfold intD at h
    obtain ⟨rs, hr, rfl⟩ := Option.map_eq_some_iff.mp h
    obtain ⟨x, xs', rfl, h1, h2⟩ := r
    have h1 : x = .int v := h1
    subst h1
    rw [List.zip_cons_cons, intD_kv ks l rs xs' hr h2]
    rfl
  | .inr _ :: _, _, _, _, h, _ => by cases h
  | [], _ :: _, _, _, h, _ => by cases h
  | .inl _ :: _, [], _, _, h, _ => by cases h
  | .inl _ :: _, .non :: _, _, _, h, _ => by cases h
  | .inl _ :: _, .bl _ :: _, _, _, h, _ => by cases h
  | .inl _ :: _, .str _ :: _, _, _, h, _ => by cases h
  | .inl _ :: _, .tup _ :: _, _, _, h, _ => by cases h
  | .inl _ :: _, .xt _ :: _, _, _, h, _ => by cases h
  | .inl _ :: _, .lst _ :: _, _, _, h, _ => by cases h
  | .inl _ :: _, .ty _ :: _, _, _, h, _ => by cases h
  | .inl _ :: _, .exc _ :: _, _, _, h, _ => by cases h
  | .inl _ :: _, .dK _ _ :: _, _, _, h, _ => by cases h
  | .inl _ :: _, .dT _ _ :: _, _, _, h, _ => by cases h
  | .inl _ :: _, .dX _ _ :: _, _, _, h, _ => by cases h
  | .inl _ :: _, .obj _ _ _ :: _, _, _, h, _ => by cases h
  | .inl _ :: _, .gt _ :: _, _, _, h, _ => by cases h
theorem kv_reads {P : Program} {w : World} {h : Heap} : ∀ (qs : List (Int × Int)) (vs : List (Key × Value)), KV (qs.map fun q => ((.inl q.1 : Key), V.int q.2)) vs → ∀ es, Pairs (mixKind P w) es vs →
    ReadsAll h (es.map (·.key)) (qs.map fun q => PyData.int q.1) [] ∧ ReadsAll h (es.map (·.val)) (qs.map fun q => PyData.int q.2) []
  | [], vs, kv, es, ps => by
    cases kv
    cases ps
    exact ⟨.nil, .nil⟩
  | q :: qs, vs, kv, es, ps => by
    cases kv with
    | cons r kv =>
      cases ps with
      | cons k k2 ps =>
        obtain ⟨i1, i2⟩ := kv_reads qs _ kv _ ps
        obtain ⟨r1, t, r2⟩ := r
        rcases keyIs_shape k with ⟨i, t2, e1, e2⟩ | ⟨x, t2, e1, e2⟩
        · rw [← r1] at e1
          injection e1 with e1
          subst e1
          rw [List.map_cons, List.map_cons, List.map_cons, List.map_cons, e2, k2, r2]
          exact ⟨.cons (.int _ _) i1, .cons (.int _ _) i2⟩
        · rw [← r1] at e1
          cases e1
theorem depth_kv : ∀ qs : List (Int × Int), (shownK qs).depth ≤ 1 := fun qs => by
  unfold shownK
  have : ∀ qs : List (Int × Int), PyData.depthKv (qs.map fun q => (PyData.int q.1, PyData.int q.2)) = 0 := fun qs => by
    induction qs with
    | nil => simp [PyData.depthKv]
    | cons q qs ih => simp [PyData.depthKv, PyData.depth, ih]
  simp [PyData.depth, this]
section
variable {X : Cx}
theorem cr_strD (hu : X.A.units + 131 < cLine) (hgd : X.A.guards = some []) : CallR X (.type "str") (RCof X.K .strD) := by
  intro pins s σ H xs us Q I rv h
  obtain ⟨x, F, p, r, rfl, e, h1, ho, q⟩ := rOp_one h (len1 rfl fun a b c => by cases a <;> rfl)
  have ho : strDP [p] = some r := ho
  unfold strDP at ho
  split at ho
  · rename_i r' hr
    cases ho
    exact cr_str1 pins s σ H [x] us Q I rv ⟨F, [p], r, e, show RepBs X.K F H [p] [x] from ⟨x, [], rfl, h1, rfl⟩, hr, q⟩
  · dsimp only at ho
    split at ho
    · rename_i hc
      obtain ⟨c1, c2, c3, c4⟩ := hc
      cases ho
      obtain ⟨u, rfl, ru⟩ := vals1 rv
      have hd := Rep.dp 60 p x c2 (h1.rep e)
      obtain ⟨as, hrd⟩ := Dp.reads I _ _ _ hd ru
      obtain ⟨a, ha⟩ : ∃ a, u = .ref a := by
        cases p with
        | lst l => obtain ⟨a, xs, rfl, _⟩ := h1; cases ru; exact ⟨a, rfl⟩
        | tup l => obtain ⟨a, xs, rfl, _⟩ := h1; cases ru; exact ⟨a, rfl⟩
        | _ => cases c1
      subst ha
      have hdep := depth_d 60 p c2
      refine str_of_reads hrd c3 (PyData.noDict_hsm (PyData.hasDict_of_canLay _ (canLay_d 60 p c2))) hgd (by omega) (fun _ _ z => z) (fun h' u' tk hk => ?_) (lim_line c4)
      exact ⟨.str p.toD.shown, H, I.kept (h' := h') (t' := tk) hk, ⟨u', rfl⟩, q _ _ .str⟩
    · obtain ⟨u, rfl, ru⟩ := vals1 rv
      cases p with
      | dK ks l =>
        have ho : strKP ks l = some r := ho
        unfold strKP at ho
        cases hq : intD ks l with
        | none => rw [hq] at ho; cases ho
        | some qs =>
          rw [hq] at ho
          dsimp only at ho
          split at ho
          · rename_i c
            cases ho
            obtain ⟨a, xs, rfl, hd, hl, nd, rp⟩ := h1.rep e
            rw [intD_kv ks l qs xs hq rp] at hd
            obtain ⟨hz, hs0, vs, kv, hdo⟩ := dk_rd I.hok hd
            obtain ⟨o, es, ep, g1, g2, g3, g4, g5, g6⟩ := hdo
            have ru : u = .ref a := ru
            subst ru
            obtain ⟨ra, rb⟩ := kv_reads (h := s.heap) qs vs kv es.toList g5
            have hrd : Reads s.heap (.ref a) (shownK qs) (a :: [] ++ []) := .dict g1 g2.1 g3 (by rw [List.map_map]; exact ra) (by rw [List.map_map]; exact rb)
            have hdep := depth_kv qs
            refine str_of_reads hrd c.1 (fun _ => ?_) hgd (by omega) (fun _ _ z => z) (fun h' u tk hk => ?_) (lim_line c.2)
            · have := beq_eq_false_iff_ne.mp hs0
              simp
              exact fun z => this z.symm
            · exact ⟨.str (shownK qs).shown, H, I.kept (h' := h') (t' := tk) hk, ⟨u, rfl⟩, q _ _ .str⟩
          · cases ho
      | non =>
        cases ho
        have hx : x = .non := h1
        subst hx
        cases ru
        exact PySem.P.str_of_none ⟨.str "None", H, I.tok _, ⟨_, rfl⟩, q _ _ .str⟩
      | bl b =>
        cases ho
        have hx : x = .bl b := h1
        subst hx
        cases ru
        exact PySem.P.str_of_bool ⟨.str (if b = true then "True" else "False"), H, I.tok _, ⟨_, rfl⟩, q _ _ .str⟩
      | str y =>
        cases ho
        have hx : x = .str y := h1
        subst hx
        obtain ⟨t, rfl⟩ := ru
        exact PySem.P.str_of_str ⟨.str y, H, I, ⟨_, rfl⟩, q _ _ .str⟩
      | _ => cases ho
end
section
variable {X : Cx} {e : Expr} {te : TE} {p apos cpos pos : Pos}
/-- list(e.values()) -/
theorem pe_listVals (hc : X.calm = true) (he : PE X e te) (hg : Gl X "list") (hm : X.mg "list" = none) (hv : bootBuiltins "list" = some (.type "list")) (hbase : attributeBase e "values" X.env (eval e X.env) = eval e X.env := by rfl) (hline : (apos.endLine == cpos.line) = true := by rfl)
    (hs : starEach [.Call (.Attribute e "values" apos) [] [] cpos] X.env = (false, eval (.Call (.Attribute e "values" apos) [] [] cpos) X.env) :: starEach [] X.env := by rfl) :
    PE X (.Call (.Name "list" p) [.Call (.Attribute e "values" apos) [] [] cpos] [] pos) (fun σ H Q => te σ H fun x H1 => ∃ d kvs, x = .ref d ∧ Rd H1 d (.dK kvs) ∧ ∀ p, H1 p = none → Q (.ref p) (upd H1 p (.lst (kvs.map (·.2))))) := by
  refine ⟨fun pins s σ H Q I hq => ?_⟩
  refine wpAny_Call_Name_kw (ld_blt I hg hm hv ?_)
  refine PyProof.Rows.callWith_type1 ?_ hs rfl
  rw [hs]
  show wpAny _ _ (spliced ((false, eval (.Call (.Attribute e "values" apos) [] [] cpos) X.env) :: backTo pos (starEach [] X.env))) _ _ s
  refine Calls.spliced_cons ?_
  refine wpAny_Call_method (T := "dict") (id := "dict.values") hbase rfl hline PySem.F.plainAttrs_dict PySem.F.slot_dict_values PySem.F.type_dict_values (thn (he.run pins s σ H _ I hq) fun u s1 ⟨x, H1, I1, rx, d, kvs, ex, hd, q⟩ => ?_)
  subst ex
  obtain rfl : u = Value.ref d := rx
  obtain ⟨hz, hs0, vs, kv, hdo⟩ := dk_rd I1.hok hd
  obtain ⟨ep, hat⟩ := hdo.dictAt
  have lk : kvs.length = vs.length := Paired.length kv
  have I2 : Inv X pins σ H1 { s1 with heap := s1.heap.push { cls := .type "dict_values", data := .fields #[.ref d] } } := I1.kept (t' := s1.toks) fun b ob q => Heap.get?_push_of_some _ q
  refine ⟨hdo.typeIs, hdo.mapOf.noDict, ?_⟩
  show wpAny _ _ (callWith cpos (.builtin "dict.values") [.ref d] [] []) _ X.xe s1
  refine method_meetsIn PySem.F.slot_dict_values PySem.F.entry_dict_values rfl (PySem.evalArgs_none ⟨rfl, hdo.typeIs, PySem.F.args_dict_values_1 _, _, meets_dict_values (mixKind X.prog X.w) d hs0, ⟨vs, hdo⟩, ?_⟩)
  refine Calls.spliced_nil ?_
  refine PySem.W.kdl_call (PySem.W.kdl_values (knd := mixKind X.prog X.w) (r := s1.heap.objs.size) (d := d) (kvs := vs) (ep := ep)) (I1.ok.hd hc) ⟨⟨_, Heap.get?_push_size _ rfl, rfl, rfl⟩, hat.push _⟩ (by omega) fun h' tk acc c hk hS hacc => ?_
  have ea : acc.toList = vs.map (·.2) := by
    have hl : acc.toList.length = vs.length := by rw [Array.length_toList]; exact hacc.1
    apply List.ext_getElem?
    intro j
    rw [List.getElem?_map]
    cases hj : acc.toList[j]? with
    | none =>
      have h1 := List.getElem?_eq_none_iff.mp hj
      rw [List.getElem?_eq_none (by omega)]
      rfl
    | some v =>
      obtain ⟨k, hk⟩ := hacc.2 j v (by rw [← Array.getElem?_toList]; exact hj)
      rw [hk]
      rfl
  have rv : Vals (kvs.map (·.2)) acc.toList := by
    rw [ea]
    clear ea hacc hS hk hat I2 hdo lk hz q hd
    induction kv with
    | nil => exact .nil
    | cons r _ ih => exact .cons r.2 ih
  exact ⟨.ref _, upd H1 _ (.lst (kvs.map (·.2))), I2.laid (t' := tk) (fun b o e => hk b o e) (Nat.le_refl _) ⟨by rw [List.length_map]; exact hz, acc.toList, c, rv, by rw [Array.toArray_toList]; exact hS⟩, rfl, q _ (I2.hok.fresh (Nat.le_refl _))⟩
end
section
variable {C : Cb} {Φ : Nat → List LV → CR} {W : WX} {X : Cx} {a b c e : Expr} {es : List Expr} {pos p : Pos} {x : Str} {ia ib ic : Arg}
theorem f_strD (o : XC X C) (gd : X.A.guards = some []) (hg : Gl X "str") (hm : X.mg "str" = none) (ha : PE X a (tA1 C Φ W ia)) (he : starEach [a] X.env = (false, eval a X.env) :: starEach [] X.env := by rfl) : PE X (.Call (.Name "str" p) [a] [] pos) (tO C Φ W .strD [ia]) := o_ty (cc o.toXO (cr_strD o.un gd)) hg hm PyProof.Rows.boot_str (as1 ha he) (by decide) (by decide) he rfl
theorem zip_snd {ks : List Key} {xs : List V} (h : ks.length = xs.length) : (ks.zip xs).map (·.2) = xs := by
  induction ks generalizing xs with
  | nil => cases xs with
    | nil => rfl
    | cons => cases h
  | cons k ks ih => cases xs with
    | nil => cases h
    | cons x xs => rw [List.zip_cons_cons, List.map_cons, ih (by simpa using h)]
theorem f_listVals (o : XC X C) (hg : Gl X "list") (hm : X.mg "list" = none) (ha : PE X a (tA1 C Φ W ia)) {apos cpos : Pos} (hbase : attributeBase a "values" X.env (eval a X.env) = eval a X.env := by rfl) (hline : (apos.endLine == cpos.line) = true := by rfl)
    (hs : starEach [.Call (.Attribute a "values" apos) [] [] cpos] X.env = (false, eval (.Call (.Attribute a "values" apos) [] [] cpos) X.env) :: starEach [] X.env := by rfl) :
    PE X (.Call (.Name "list" p) [.Call (.Attribute a "values" apos) [] [] cpos] [] pos) (tO C Φ W .valsL [ia]) :=
  (pe_listVals o.calm ha hg hm PyProof.Rows.boot_list hbase hline hs).weak fun σ H Q q => (tO_1 q).imp fun x H1 k => by
    obtain ⟨F, p, r, e, h1, ho, q⟩ := rOp_1 k
    cases p with
    | dK ks l =>
      cases ho
      obtain ⟨d, xs, rfl, hd, hl, nd, rp⟩ := h1
      refine ⟨d, _, rfl, hd, fun p hp => ?_⟩
      rw [zip_snd hl]
      exact q _ _ (.lst hp rp)
    | _ => cases ho
end
end Br
set_option maxHeartbeats 2000000
/-! BrV2: a comprehension over a dict of our own, locked as long as it is walked. -/
namespace Br
open PySem PySem.Spec PyProof.Rows L2
section
variable {C : Cb} {Φ : Nat → List LV → CR} {W : WX} {X : Cx} {tg elt : Expr} {ifs : List Expr} {pos p : Pos} {x : Str} {scope : Scope}
end
end Br
set_option maxHeartbeats 2000000
/-! BrV3: sum(d.values()), min(d.values(), default=0), min(t, default=0). -/
namespace Br
open PySem PySem.Spec PyProof.Rows L2
section
variable {X : Cx} {e : Expr} {te : TE} {p apos cpos pos : Pos}
end
section
variable {C : Cb} {Φ : Nat → List LV → CR} {W : WX} {X : Cx} {a b c e : Expr} {es : List Expr} {pos p : Pos} {x : Str} {ia ib ic : Arg}
theorem ResR.xt {K : PySem.W.Frag} {F H : Hp} {nw : Bool} {l : List PV} {xs : List V} {a : Addr} {o : Obj} (n : H a = none) (hd : o.dict = none) (r : Reps K F l xs) : ResR K F H nw (.xt l) (.ref a) (upd H a (.frz o (.tup xs))) := .inr (.inr (.inr (.inl ⟨a, xs, o, l, n, rfl, rfl, hd, rfl, r⟩)))
end
end Br
set_option maxHeartbeats 2000000
/-! BrV4: {a: b}. -/
namespace Br
open PySem PySem.Spec PyProof.Rows L2
section
variable {C : Cb} {Φ : Nat → List LV → CR} {W : WX} {X : Cx} {ek ev : Expr} {pos : Pos}
/-! d.pop(k) -/
end
end Br
set_option maxHeartbeats 4000000
/-! BrQ1: sorted(set(x)), x a list of ints. -/
namespace Br
open PySem PySem.Spec PyProof.Rows L2
section
variable {P : Program} {w : World} {A : Around} {E : Value → Shared → Prop} {s : Shared}
end
section
variable {X : Cx} {pins : List (Addr × Obj)} {s : Shared} {σ : L2.St} {H : Hp} {Q : VK}
end
section
variable {X : Cx} {e : Expr} {te : TE} {p p2 q2 pos : Pos}
end
section
variable {C : Cb} {Φ : Nat → List LV → CR} {W : WX} {X : Cx} {a : Expr} {ia : Arg} {p p2 q2 pos : Pos}
end
end Br
set_option maxHeartbeats 4000000
/-! BrQ2: dict of pairs, the keys tuples. -/
namespace Br
open PySem PySem.Spec PyProof.Rows L2
section
variable {X : Cx}
theorem KT.is {pins : List (Addr × Obj)} {σ : L2.St} {H : Hp} {s : Shared} (I : L2.Inv X pins σ H s) {kvs : List (List Key × V)} {xs : List (List Key × Addr × Value)} (r : KT H kvs xs) : ∀ x ∈ xs, (tupleKind (mixKind X.prog X.w)).is s.heap x.1 x.2.1 := by
  induction r with
  | nil => intro x hx; exact nomatch hx
  | @cons p q ps qs hq t ih =>
    intro x hx
    rcases List.mem_cons.mp hx with e | hx
    · subst e
      exact key_of I.hok (by rw [← hq.1]; exact hq.2.1)
    · exact ih x hx
end
section
variable {X : Cx}
end
section
variable {C : Cb} {Φ : Nat → List LV → CR} {W : WX} {X : Cx} {a : Expr} {ia : Arg} {pos p : Pos}
end
end Br
set_option maxHeartbeats 4000000
/-! BrQ3: sorted(set(x)), x a list of tuples of ints; len(set(x)), x a list of ints. -/
namespace Br
open PySem PySem.Spec PyProof.Rows L2
section
variable {X : Cx} {pins : List (Addr × Obj)} {s : Shared} {σ : L2.St} {H : Hp} {Q : VK}
end
section
variable {X : Cx} {e : Expr} {te : TE} {p p2 q2 pos : Pos}
end
section
variable {C : Cb} {Φ : Nat → List LV → CR} {W : WX} {X : Cx} {a : Expr} {ia : Arg} {p p2 q2 pos : Pos}
end
end Br
namespace Br
open PySem PySem.Spec PyProof.Rows L2
section
variable {C : Cb} {Φ : Nat → List LV → CR} {W : WX} {X : Cx} {a b c d : Expr} {pos : Pos}
end
end Br
set_option maxHeartbeats 4000000
/-! BrQ4: texts: join, split, strip, int of a text, a sign of a text, the signs of a text. -/
namespace Br
open PySem PySem.Spec PyProof.Rows L2
section
variable {C : Cb} {Φ : Nat → List LV → CR} {W : WX} {X : Cx} {a b c e tg : Expr} {es : List Expr} {pos p : Pos} {x : Str} {ia ib ic : Arg}
end
section
variable {fa : List He.Fa} {fn : List He.DefD} {K : PySem.W.Frag} {h : Heap} {mg : Str → Option Value}
end
end Br
set_option maxHeartbeats 1000000
/-! BrP: laws of the evaluator, for proofs about what a def computes. -/
namespace Br
open PySem PySem.Spec PyProof.Rows L2

/-! evaluation in order: what stands behind waits, by names -/
def ifE {α : Type} (t : Bool) (f g : Env → ER α) (ρ : Env) : ER α := match t with
  | true => f ρ
  | false => g ρ
theorem ifE_t {α : Type} (f g : Env → ER α) (ρ : Env) : ifE true f g ρ = f ρ := rfl
theorem ifE_f {α : Type} (f g : Env → ER α) (ρ : Env) : ifE false f g ρ = g ρ := rfl
def ifS (t : Bool) (f g : Env → SO) (ρ : Env) : SO := match t with
  | true => f ρ
  | false => g ρ
theorem ifS_t (f g : Env → SO) (ρ : Env) : ifS true f g ρ = f ρ := rfl
theorem ifS_f (f g : Env → SO) (ρ : Env) : ifS false f g ρ = g ρ := rfl
def okE {α : Type} (a : α) (ρ : Env) : ER α := .ok a ρ
theorem okE_eq {α : Type} (a : α) (ρ : Env) : okE a ρ = .ok a ρ := rfl
section
variable (Φ : Nat → List LV → CR) (n : Nat)
def kOp (o : Op) (avs : List AV) (ρ : Env) : ER PV := ER.of ((AV.pvs ρ avs).bind (opX o)) ρ
def kVal (p : PV) (ρ : Env) : ER AV := .ok (.val p) ρ
def kCons (av : AV) (avs : List AV) (ρ : Env) : ER (List AV) := .ok (av :: avs) ρ
def kAs (as : List Arg) (av : AV) (ρ : Env) : ER (List AV) := (evAs Φ as ρ).bind (kCons av)
def kConsE (p : PV) (ps : List PV) (ρ : Env) : ER (List PV) := .ok (p :: ps) ρ
def kEs (es : List Ex) (p : PV) (ρ : Env) : ER (List PV) := (evEs Φ es ρ).bind (kConsE p)
def kTup (ps : List PV) (ρ : Env) : ER PV := if ps.length ≤ LIM then .ok (.tup ps) ρ else .st
def kLst (ps : List PV) (ρ : Env) : ER PV := if ps.length ≤ LIM then .ok (.lst ps) ρ else .st
def kCall (j : Nat) (avs : List AV) (ρ : Env) : ER PV := froE (callE (Φ j) avs ρ)
def kMth2 (o : Op) (av : AV) (avs : List AV) (ρ : Env) : ER PV := ER.of ((AV.pvs ρ (av :: avs)).bind (opSem o)) ρ
def kMth (o : Op) (as : List Arg) (av : AV) (ρ : Env) : ER PV := if recvOk o (av.pv ρ) = true then (evAs Φ as ρ).bind (kMth2 o av) else .st
def kAnd (b : Ex) (p : PV) (ρ : Env) : ER PV := match p with
  | .bl t => ifE t (evE Φ b) (okE (.bl false)) ρ
  | _ => .st
def kOr (b : Ex) (p : PV) (ρ : Env) : ER PV := match p with
  | .bl t => ifE t (okE (.bl true)) (evE Φ b) ρ
  | _ => .st
def kNot (p : PV) (ρ : Env) : ER PV := match p with
  | .bl t => .ok (.bl (!t)) ρ
  | _ => .st
def kIte (a b : Ex) (t : Bool) (ρ : Env) : ER PV := ifE t (evE Φ a) (evE Φ b) ρ
def kCh4 (o2 : Op) (q r : PV) (ρ : Env) : ER PV := ER.of (opSem o2 [q, r]) ρ
def kCh3 (o2 : Op) (c : Ex) (q : PV) (ρ : Env) : ER PV := (evE Φ c ρ).bind (kCh4 o2 q)
def kCh2b (o2 : Op) (c : Ex) (q : PV) (r : Option PV) (ρ : Env) : ER PV := match r with
  | some (.bl t) => ifE t (kCh3 Φ o2 c q) (okE (.bl false)) ρ
  | _ => .st
def kCh2 (o1 o2 : Op) (c : Ex) (p q : PV) (ρ : Env) : ER PV := kCh2b Φ o2 c q (opSem o1 [p, q]) ρ
def kCh1 (o1 o2 : Op) (b c : Ex) (p : PV) (ρ : Env) : ER PV := (evE Φ b ρ).bind (kCh2 Φ o1 o2 c p)
def kCh33 (o2 o3 : Op) (c d : Ex) (q : PV) (ρ : Env) : ER PV := (evE Φ c ρ).bind (kCh2 Φ o2 o3 d q)
def kCh32b (o2 o3 : Op) (c d : Ex) (q : PV) (r : Option PV) (ρ : Env) : ER PV := match r with
  | some (.bl t) => ifE t (kCh33 Φ o2 o3 c d q) (okE (.bl false)) ρ
  | _ => .st
def kCh32 (o1 o2 o3 : Op) (c d : Ex) (p q : PV) (ρ : Env) : ER PV := kCh32b Φ o2 o3 c d q (opSem o1 [p, q]) ρ
def kCh31 (o1 o2 o3 : Op) (b c d : Ex) (p : PV) (ρ : Env) : ER PV := (evE Φ b ρ).bind (kCh32 Φ o1 o2 o3 c d p)
def kS3 (av : AV) (i : Int) (q : PV) (ρ : Env) : ER PV := match q with
  | .int j => ER.of ((av.pv ρ).bind fun x => slcP true true [x, .int i, .int j]) ρ
  | _ => .st
def kS2 (hi : Ex) (av : AV) (p : PV) (ρ : Env) : ER PV := match p with
  | .int i => (evE Φ hi ρ).bind (kS3 av i)
  | _ => .st
def kS1 (lo hi : Ex) (av : AV) (ρ : Env) : ER PV := (evE Φ lo ρ).bind (kS2 Φ hi av)
def kC6 (vs : List Nat) (y : PV) (ρ : Env) : ER (Option PV) := .ok (some y) (wipeE ρ vs)
def kC5 (vs : List Nat) (ρ : Env) : ER (Option PV) := .ok none (wipeE ρ vs)
def kC4 (vs : List Nat) (e : Ex) (ρ : Env) : ER (Option PV) := (evE Φ e ρ).bind (kC6 vs)
def kC3 (vs : List Nat) (e : Ex) (b : Bool) (ρ : Env) : ER (Option PV) := ifE b (kC4 Φ vs e) (kC5 vs) ρ
def kC0 (c : List Tst) (vs : List Nat) (e : Ex) (r : Option Env) : ER (Option PV) := match r with
  | some ρ => (evTs Φ c ρ).bind (kC3 Φ vs e)
  | none => .st
def cF (t : Tg) (vs : List Nat) (c : List Tst) (e : Ex) (x : PV) (ρ : Env) : ER (Option PV) := kC0 Φ c vs e (t.bind x ρ)
def kC2 (ρ1 : Env) (vs : List Nat) (ys : List PV) (ρ6 : Env) : ER PV := .ok (.lst ys) (backE ρ1 ρ6 vs)
def kC1 (t : Tg) (vs : List Nat) (c : List Tst) (e : Ex) (xs : List PV) (ρ1 : Env) : ER PV := if xs.length ≤ LIM then (compL (cF Φ t vs c e) xs (wipeE ρ1 vs)).bind (kC2 ρ1 vs) else .st
def kTand (b : Tst) (t : Bool) (ρ : Env) : ER Bool := ifE t (evT Φ b) (okE false) ρ
def kTor (b : Tst) (t : Bool) (ρ : Env) : ER Bool := ifE t (okE true) (evT Φ b) ρ
def kTnot (t : Bool) (ρ : Env) : ER Bool := .ok (!t) ρ
def kTe (p : PV) (ρ : Env) : ER Bool := match p with
  | .bl b => .ok b ρ
  | _ => .st
def kSeq (p : PV) (ρ : Env) : ER (List PV) := ER.of (seqOf p) ρ
def kR1 (p : PV) (ρ : Env) : ER (List PV) := match p with
  | .int j => if rngOk j then .ok (rngP 0 j) ρ else .st
  | _ => .st
def kR3 (p q : PV) (ρ : Env) : ER (List PV) := match p, q with
  | .int i, .int j => if rngOk i ∧ rngOk j then .ok (rngP i j) ρ else .st
  | _, _ => .st
def kSeqS (p : PV) (ρ : Env) : ER (List PV) := match p with
  | .str x => .ok (signsP x) ρ
  | _ => .st
def kR2 (b : Ex) (p : PV) (ρ : Env) : ER (List PV) := (evE Φ b ρ).bind (kR3 p)
def kEn (p : PV) (ρ : Env) : ER (List PV) := match p with
  | .lst l => .ok (enumP l) ρ
  | .tup l => .ok (enumP l) ρ
  | .xt l => .ok (enumP l) ρ
  | _ => .st
def kZ2 (p q : PV) (ρ : Env) : ER (List PV) := match p.dn, q.dn with
  | .lst l, .lst m => .ok (zipP l m) ρ
  | .tup l, .tup m => .ok (zipP l m) ρ
  | .lst l, .tup m => .ok (zipP l m) ρ
  | .tup l, .lst m => .ok (zipP l m) ρ
  | _, _ => .st
def kZ1 (b : Ex) (p : PV) (ρ : Env) : ER (List PV) := (evE Φ b ρ).bind (kZ2 p)
def kRv (p : PV) (ρ : Env) : ER (List PV) := ER.of ((seqOf p).map List.reverse) ρ
def kOwn (p : PV) (ρ : Env) : ER LV := .ok (.own p) ρ
def kFro (p : PV) (ρ : Env) : ER LV := .ok (.fro p) ρ
def kOwnV (o : Op) (p : PV) (ρ : Env) : ER LV := .ok (ownV o p) ρ
def kCallL (j : Nat) (avs : List AV) (ρ : Env) : ER LV := callE (Φ j) avs ρ
def kPopE (i : Nat) (p : PV) (ρ : Env) : ER PV := putE i (popP (at' ρ i) p) ρ
def kSet (i : Nat) (l : LV) (ρ : Env) : SO := .nx (ρ.set i (some l))
def kUnp (t : Tg) (p : PV) (ρ : Env) : SO := SO.of (t.bind p ρ)
def kPar (is : List Nat) (ps : List PV) (ρ : Env) : SO := SO.of (parE is ps ρ)
def kSI2 (i : Nat) (p q : PV) (ρ : Env) : SO := match (at' ρ i).bind fun l => setIxP l q p with
  | some l => .nx (ρ.set i (some l))
  | none => .st
def kSI1 (i : Nat) (k : Ex) (p : PV) (ρ : Env) : SO := if (at' ρ i).isSome = true then (evE Φ k ρ).so (kSI2 i p) else .st
def kApp (i : Nat) (p : PV) (ρ : Env) : SO := match at' ρ i with
  | some (.own (.lst l)) => if l.length < LIM then .nx (ρ.set i (some (.own (.lst (l ++ [p]))))) else .st
  | _ => .st
def kExt (i : Nat) (p : PV) (ρ : Env) : SO := match at' ρ i, p with
  | some (.own (.lst l)), .lst m => if l.length + m.length ≤ LIM then .nx (ρ.set i (some (.own (.lst (l ++ m))))) else .st
  | _, _ => .st
def kPopA (i : Nat) (p : PV) (ρ : Env) : SO := match at' ρ i, p with
  | some (.own (.lst l)), .int j => if 0 ≤ j ∧ j < l.length ∧ j < LIM then .nx (ρ.set i (some (.own (.lst (l.eraseIdx j.toNat))))) else .st
  | _, _ => .st
def kIns2 (i : Nat) (q p : PV) (ρ : Env) : SO := match at' ρ i, q with
  | some (.own (.lst l)), .int j => if l.length < LIM ∧ 0 ≤ j ∧ j < LIM then .nx (ρ.set i (some (.own (.lst (l.take j.toNat ++ p :: l.drop j.toNat))))) else .st
  | _, _ => .st
def kIns1 (i : Nat) (e : Ex) (q : PV) (ρ : Env) : SO := (evE Φ e ρ).so (kIns2 i q)
def kEx (_ : PV) (ρ : Env) : SO := .nx ρ
def kRet (l : LV) (ρ : Env) : SO := .rt l ρ
def kIf (a b : List St) (t : Bool) (ρ : Env) : SO := ifS t (exSs Φ n a) (exSs Φ n b) ρ
def kFor (t : Tg) (b : List St) (xs : List PV) (ρ : Env) : SO := forL (bindS (exSs Φ n b) t) xs ρ
def kN2 (j : Nat) (t : Bool) (avs : List AV) (bvs : List AV) (ρ : Env) : ER LV := callT (Φ j) avs (newL t) bvs ρ
def kN1 (j : Nat) (t : Bool) (bs : List Arg) (avs : List AV) (ρ1 : Env) : ER LV := (evAs Φ bs ρ1).bind (kN2 Φ j t avs)
def kT4 (j : Nat) (avs : List AV) (l : LV) (bvs : List AV) (ρ : Env) : ER LV := callT (Φ j) avs l bvs ρ
def kT3 (j : Nat) (avs : List AV) (bs : List Arg) (l : LV) (ρ : Env) : ER LV := (evAs Φ bs ρ).bind (kT4 Φ j avs l)
def kT2 (j k : Nat) (avs : List AV) (bs : List Arg) (cvs : List AV) (ρ : Env) : ER LV := (callE (Φ k) cvs ρ).bind (kT3 Φ j avs bs)
def kT1 (j k : Nat) (cs bs : List Arg) (avs : List AV) (ρ : Env) : ER LV := (evAs Φ cs ρ).bind (kT2 Φ j k avs bs)
variable {Φ n}
theorem v_app (o : Op) (as : List Arg) (ρ : Env) : evE Φ (.app o as) ρ = (evAs Φ as ρ).bind (kOp o) := by rw [evE]; rfl
theorem v_mth (o : Op) (a : Arg) (as : List Arg) (ρ : Env) : evE Φ (.mth o a as) ρ = (evA Φ a ρ).bind (kMth Φ o as) := by rw [evE]; rfl
theorem v_tup (es : List Ex) (ρ : Env) : evE Φ (.tup es) ρ = (evEs Φ es ρ).bind kTup := by rw [evE]; rfl
theorem v_lst (es : List Ex) (ρ : Env) : evE Φ (.lst es) ρ = (evEs Φ es ρ).bind kLst := by rw [evE]; rfl
theorem v_cst (c : PV) (ρ : Env) : evE Φ (.cst c) ρ = .ok c ρ := by rw [evE]
theorem v_dnewT (ρ : Env) : evE Φ .dnewT ρ = .ok (.dT [] []) ρ := by rw [evE]
theorem v_dnewX (ρ : Env) : evE Φ .dnewX ρ = .ok (.dX [] []) ρ := by rw [evE]
theorem v_dnew (ρ : Env) : evE Φ .dnew ρ = .ok (.dK [] []) ρ := by rw [evE]
theorem v_var (i : Nat) (ρ : Env) : evE Φ (.var i) ρ = match ρ[i]? with
    | some (some (.fro p)) => .ok p ρ
    | some (some (.own p)) => .ok p (ρ.set i (some (.fro p)))
    | _ => .st := by rw [evE]; try rfl
theorem putE_some (i : Nat) (x : PV) (l : LV) (ρ : Env) : putE i (some (x, l)) ρ = .ok x (ρ.set i (some l)) := by rw [putE]
theorem putE_none (i : Nat) (ρ : Env) : putE i none ρ = .st := by rw [putE]
theorem kPopE_eq (i : Nat) (p : PV) (ρ : Env) : kPopE i p ρ = putE i (popP (at' ρ i) p) ρ := by rw [kPopE]
theorem v_dispV (i j : Nat) (ρ : Env) : evE Φ (.dispV i j) ρ = ER.of (dispP ρ i j) ρ := by rw [evE]
theorem l_dispV' (i j : Nat) (ρ : Env) : evL Φ (.dispV i j) ρ = (ER.of (dispP ρ i j) ρ).bind kOwn := rfl
def kD2 (p q : PV) (ρ : Env) : ER PV := ER.of ((keyP p).map fun k => .dK [k] [q]) ρ
def kD1 (b : Ex) (p : PV) (ρ : Env) : ER PV := (evE Φ b ρ).calm.bind (kD2 p)
theorem v_disp1 (a b : Ex) (ρ : Env) : evE Φ (.disp1 a b) ρ = (evE Φ a ρ).calm.bind (kD1 (Φ := Φ) b) := by
  rw [evE]
  rfl
theorem l_disp1' (a b : Ex) (ρ : Env) : evL Φ (.disp1 a b) ρ = (evE Φ (.disp1 a b) ρ).bind kOwn := rfl
theorem kD1_eq (b : Ex) (p : PV) (ρ : Env) : kD1 (Φ := Φ) b p ρ = (evE Φ b ρ).calm.bind (kD2 p) := rfl
theorem kD2_i (i : Int) (q : PV) (ρ : Env) : kD2 (.int i) q ρ = .ok (.dK [.inl i] [q]) ρ := rfl
theorem calm_ok {α : Type} (a : α) (ρ : Env) : (ER.ok a ρ).calm = .ok a ρ := rfl
def kPopD (i : Nat) (p : PV) (ρ : Env) : ER PV := putE i (popDP (at' ρ i) p) ρ
theorem kPopD_eq (i : Nat) (p : PV) (ρ : Env) : kPopD i p ρ = putE i (popDP (at' ρ i) p) ρ := by rw [kPopD]
theorem v_popD (i : Nat) (e : Ex) (ρ : Env) : evE Φ (.popD i e) ρ = if ownD ρ i = true then (evE Φ e ρ).bind (kPopD i) else .st := by rw [evE]; rfl
theorem v_popE (i : Nat) (e : Ex) (ρ : Env) : evE Φ (.popE i e) ρ = if ownL ρ i = true then (evE Φ e ρ).bind (kPopE i) else .st := by rw [evE]; rfl
theorem v_popL (i : Nat) (ρ : Env) : evE Φ (.popL i) ρ = putE i (poplP (at' ρ i)) ρ := by rw [evE]
theorem v_call (j : Nat) (as : List Arg) (ρ : Env) : evE Φ (.call j as) ρ = (evAs Φ as ρ).bind (kCall Φ j) := by rw [evE]; rfl
theorem v_and (a b : Ex) (ρ : Env) : evE Φ (.and a b) ρ = (evE Φ a ρ).bind (kAnd Φ b) := by
  rw [evE]; congr 1; funext p ρ; cases p with
  | bl t => cases t <;> rfl
  | _ => rfl
theorem v_or (a b : Ex) (ρ : Env) : evE Φ (.or a b) ρ = (evE Φ a ρ).bind (kOr Φ b) := by
  rw [evE]; congr 1; funext p ρ; cases p with
  | bl t => cases t <;> rfl
  | _ => rfl
theorem v_not (a : Ex) (ρ : Env) : evE Φ (.not a) ρ = (evE Φ a ρ).bind kNot := by rw [evE]; congr 1
theorem v_ite (c : Tst) (a b : Ex) (ρ : Env) : evE Φ (.ite c a b) ρ = (evT Φ c ρ).bind (kIte Φ a b) := by
  rw [evE]; congr 1; funext t ρ; cases t <;> rfl
theorem v_chain (o1 o2 : Op) (a b c : Ex) (ρ : Env) : evE Φ (.chain o1 o2 a b c) ρ = (evE Φ a ρ).bind (kCh1 Φ o1 o2 b c) := by
  rw [evE]; congr 1; funext p ρ; unfold kCh1; congr 1; funext q ρ; unfold kCh2 kCh2b
  cases opSem o1 [p, q] with
  | none => rfl
  | some r => cases r with
    | bl t => cases t <;> rfl
    | _ => rfl
theorem v_chain3 (o1 o2 o3 : Op) (a b c d : Ex) (ρ : Env) : evE Φ (.chain3 o1 o2 o3 a b c d) ρ = (evE Φ a ρ).bind (kCh31 Φ o1 o2 o3 b c d) := by
  rw [evE]; congr 1; funext p ρ; unfold kCh31; congr 1; funext q ρ; unfold kCh32 kCh32b
  cases opSem o1 [p, q] with
  | none => rfl
  | some r => cases r with
    | bl t => cases t with
      | false => rfl
      | true =>
        show (evE Φ c ρ).bind _ = kCh33 Φ o2 o3 c d q ρ
        unfold kCh33
        congr 1; funext r ρ; unfold kCh2 kCh2b
        cases opSem o2 [q, r] with
        | none => rfl
        | some r => cases r with
          | bl t => cases t <;> rfl
          | _ => rfl
    | _ => rfl
theorem v_sl2 (a : Arg) (lo hi : Ex) (ρ : Env) : evE Φ (.sl2 a lo hi) ρ = (evA Φ a ρ).bind (kS1 Φ lo hi) := by
  rw [evE]; congr 1
theorem v_comp (s : Src) (t : Tg) (vs : List Nat) (c : List Tst) (e : Ex) (ρ : Env) : evE Φ (.comp s t vs c e) ρ = (evSrc Φ s ρ).bind (kC1 Φ t vs c e) := by
  rw [evE]; congr 1; funext xs ρ1; unfold kC1
  have h : (fun x ρ2 => match t.bind x ρ2 with
        | some ρ3 => (evTs Φ c ρ3).bind fun b ρ4 => if b = true then (evE Φ e ρ4).bind fun y ρ5 => .ok (some y) (wipeE ρ5 vs) else .ok none (wipeE ρ4 vs)
        | none => .st : PV → Env → ER (Option PV)) = cF Φ t vs c e := by
    funext x ρ2
    unfold cF kC0
    cases t.bind x ρ2 with
    | none => rfl
    | some ρ3 =>
      dsimp only
      congr 1
      funext b ρ4
      cases b <;> rfl
  exact congrArg (fun f => if xs.length ≤ LIM then (compL f xs (wipeE ρ1 vs)).bind (kC2 ρ1 vs) else .st) h
/-- a comprehension over a dict of our own -/
def kCK (i : Nat) (t : Tg) (vs : List Nat) (c : List Tst) (e : Ex) (ρ : Env) (o : Option LV) : ER PV := match o with
  | some (.own (.dK ks ws)) => if (keysP ks).length ≤ LIM then lockE i (.own (.dK ks ws)) ((compL (cF Φ t vs c e) (keysP ks) (wipeE (ρ.set i (some (.fro (.dK ks ws)))) vs)).bind (kC2 (ρ.set i (some (.fro (.dK ks ws)))) vs)) else .st
  | some (.own (.dT ks ws)) => if (ks.map tupQ).length ≤ LIM then lockE i (.own (.dT ks ws)) ((compL (cF Φ t vs c e) (ks.map tupQ) (wipeE (ρ.set i (some (.fro (.dT ks ws)))) vs)).bind (kC2 (ρ.set i (some (.fro (.dT ks ws)))) vs)) else .st
  | _ => .st
theorem v_compK (i : Nat) (t : Tg) (vs : List Nat) (c : List Tst) (e : Ex) (ρ : Env) : evE Φ (.compK i t vs c e) ρ = kCK (Φ := Φ) i t vs c e ρ (at' ρ i) := by
  rw [evE]
  have h : (fun x ρ2 => match t.bind x ρ2 with
        | some ρ3 => (evTs Φ c ρ3).bind fun b ρ4 => if b = true then (evE Φ e ρ4).bind fun y ρ5 => .ok (some y) (wipeE ρ5 vs) else .ok none (wipeE ρ4 vs)
        | none => .st : PV → Env → ER (Option PV)) = cF Φ t vs c e := by
    funext x ρ2
    unfold cF kC0
    cases t.bind x ρ2 with
    | none => rfl
    | some ρ3 =>
      dsimp only
      congr 1
      funext b ρ4
      cases b <;> rfl
  unfold kCK
  generalize at' ρ i = o
  rcases o with _ | (p | p | _)
  · rfl
  · rfl
  · cases p with
    | dK ks ws => exact congrArg (fun f => if (keysP ks).length ≤ LIM then lockE i (.own (.dK ks ws)) ((compL f (keysP ks) (wipeE (ρ.set i (some (.fro (.dK ks ws)))) vs)).bind (kC2 (ρ.set i (some (.fro (.dK ks ws)))) vs)) else .st) h
    | dT ks ws => exact congrArg (fun f => if (ks.map tupQ).length ≤ LIM then lockE i (.own (.dT ks ws)) ((compL f (ks.map tupQ) (wipeE (ρ.set i (some (.fro (.dT ks ws)))) vs)).bind (kC2 (ρ.set i (some (.fro (.dT ks ws)))) vs)) else .st) h
    | _ => rfl
  · rfl
theorem kCK_d (i : Nat) (t : Tg) (vs : List Nat) (c : List Tst) (e : Ex) (ρ : Env) (ks : List Key) (ws : List PV) : kCK (Φ := Φ) i t vs c e ρ (some (.own (.dK ks ws))) = if (keysP ks).length ≤ LIM then lockE i (.own (.dK ks ws)) ((compL (cF Φ t vs c e) (keysP ks) (wipeE (ρ.set i (some (.fro (.dK ks ws)))) vs)).bind (kC2 (ρ.set i (some (.fro (.dK ks ws)))) vs)) else .st := rfl
theorem kCK_t (i : Nat) (t : Tg) (vs : List Nat) (c : List Tst) (e : Ex) (ρ : Env) (ks : List (List Key)) (ws : List PV) : kCK (Φ := Φ) i t vs c e ρ (some (.own (.dT ks ws))) = if (ks.map tupQ).length ≤ LIM then lockE i (.own (.dT ks ws)) ((compL (cF Φ t vs c e) (ks.map tupQ) (wipeE (ρ.set i (some (.fro (.dT ks ws)))) vs)).bind (kC2 (ρ.set i (some (.fro (.dT ks ws)))) vs)) else .st := rfl
/-- a comprehension over a list of our own -/
def kCO (i : Nat) (t : Tg) (vs : List Nat) (c : List Tst) (e : Ex) (ρ : Env) (o : Option LV) : ER PV := match o with
  | some (.own (.lst l)) => if l.length ≤ LIM then putO i (.own (.lst l)) ((compL (cF Φ t vs c e) l (wipeE (ρ.set i none) vs)).bind (kC2 (ρ.set i none) vs)) else .st
  | _ => .st
theorem v_compO (i : Nat) (t : Tg) (vs : List Nat) (c : List Tst) (e : Ex) (ρ : Env) : evE Φ (.compO i t vs c e) ρ = kCO (Φ := Φ) i t vs c e ρ (at' ρ i) := by
  rw [evE]
  have h : (fun x ρ2 => match t.bind x ρ2 with
        | some ρ3 => (evTs Φ c ρ3).bind fun b ρ4 => if b = true then (evE Φ e ρ4).bind fun y ρ5 => .ok (some y) (wipeE ρ5 vs) else .ok none (wipeE ρ4 vs)
        | none => .st : PV → Env → ER (Option PV)) = cF Φ t vs c e := by
    funext x ρ2
    unfold cF kC0
    cases t.bind x ρ2 with
    | none => rfl
    | some ρ3 =>
      dsimp only
      congr 1
      funext b ρ4
      cases b <;> rfl
  unfold kCO
  generalize at' ρ i = o
  rcases o with _ | (p | p | _)
  · rfl
  · rfl
  · cases p with
    | lst l => exact congrArg (fun f => if l.length ≤ LIM then putO i (.own (.lst l)) ((compL f l (wipeE (ρ.set i none) vs)).bind (kC2 (ρ.set i none) vs)) else .st) h
    | _ => rfl
  · rfl
theorem kCO_l (i : Nat) (t : Tg) (vs : List Nat) (c : List Tst) (e : Ex) (ρ : Env) (l : List PV) : kCO (Φ := Φ) i t vs c e ρ (some (.own (.lst l))) = if l.length ≤ LIM then putO i (.own (.lst l)) ((compL (cF Φ t vs c e) l (wipeE (ρ.set i none) vs)).bind (kC2 (ρ.set i none) vs)) else .st := rfl
theorem putO_ok (i : Nat) (l : LV) (p : PV) (ρ : Env) : putO i l (.ok p ρ) = .ok p (ρ.set i (some l)) := rfl
theorem v_aref (i : Nat) (ρ : Env) : evA Φ (.ref i) ρ = match ρ[i]? with
    | some (some (.fro p)) => .ok (.val p) ρ
    | some (some _) => .ok (.ref i) ρ
    | _ => .st := by rw [evA]; try rfl
theorem v_aval (e : Ex) (ρ : Env) : evA Φ (.val e) ρ = (evE Φ e ρ).bind kVal := by rw [evA]; rfl
theorem v_as0 (ρ : Env) : evAs Φ [] ρ = .ok [] ρ := by rw [evAs]
theorem v_as (a : Arg) (as : List Arg) (ρ : Env) : evAs Φ (a :: as) ρ = (evA Φ a ρ).bind (kAs Φ as) := by rw [evAs]; rfl
theorem v_es0 (ρ : Env) : evEs Φ [] ρ = .ok [] ρ := by rw [evEs]
theorem v_es (a : Ex) (as : List Ex) (ρ : Env) : evEs Φ (a :: as) ρ = (evE Φ a ρ).bind (kEs Φ as) := by rw [evEs]; rfl
theorem v_tand (a b : Tst) (ρ : Env) : evT Φ (.and a b) ρ = (evT Φ a ρ).bind (kTand Φ b) := by
  rw [evT]; congr 1; funext t ρ; cases t <;> rfl
theorem v_tor (a b : Tst) (ρ : Env) : evT Φ (.or a b) ρ = (evT Φ a ρ).bind (kTor Φ b) := by
  rw [evT]; congr 1; funext t ρ; cases t <;> rfl
theorem v_tnot (a : Tst) (ρ : Env) : evT Φ (.not a) ρ = (evT Φ a ρ).bind kTnot := by rw [evT]; rfl
theorem v_te (x : Ex) (ρ : Env) : evT Φ (.e x) ρ = (evE Φ x ρ).bind kTe := by
  rw [evT]; congr 1
theorem v_ts0 (ρ : Env) : evTs Φ [] ρ = .ok true ρ := by rw [evTs]
theorem v_ts1 (c : Tst) (ρ : Env) : evTs Φ [c] ρ = evT Φ c ρ := by rw [evTs]
theorem v_seq (e : Ex) (ρ : Env) : evSrc Φ (.seq e) ρ = (evE Φ e ρ).bind kSeq := by rw [evSrc]; rfl
theorem v_seqS (e : Ex) (ρ : Env) : evSrc Φ (.seqS e) ρ = (evE Φ e ρ).bind kSeqS := by rw [evSrc]; congr 1
theorem v_rng1 (a : Ex) (ρ : Env) : evSrc Φ (.rng1 a) ρ = (evE Φ a ρ).bind kR1 := by rw [evSrc]; congr 1
theorem v_rng2 (a b : Ex) (ρ : Env) : evSrc Φ (.rng2 a b) ρ = (evE Φ a ρ).bind (kR2 Φ b) := by
  rw [evSrc]; congr 1
theorem v_enum (a : Ex) (ρ : Env) : evSrc Φ (.enum a) ρ = (evE Φ a ρ).bind kEn := by rw [evSrc]; rfl
theorem v_zip (a b : Ex) (ρ : Env) : evSrc Φ (.zip a b) ρ = (evE Φ a ρ).bind (kZ1 Φ b) := by rw [evSrc]; congr 1
/-! calls with a temporary of our own -/
theorem l_callT' (j k : Nat) (as cs bs : List Arg) (ρ : Env) : evL Φ (.callT j as k cs bs) ρ = (evAs Φ as ρ).bind (kT1 Φ j k cs bs) := rfl
theorem ER.assoc {α β γ : Type} (r : ER α) (f : α → Env → ER β) (g : β → Env → ER γ) : (r.bind f).bind g = r.bind fun a ρ => (f a ρ).bind g := by cases r <;> rfl
theorem kN2_eq (j : Nat) (t : Bool) (avs : List AV) (bvs : List AV) (ρ : Env) : kN2 Φ j t avs bvs ρ = dropT (callE (Φ j) (avs.map AV.sh ++ .ref 0 :: bvs.map AV.sh) (some (newL t) :: ρ)) := by rfl
theorem newL_t : newL true = .own (.dT [] []) := rfl
theorem newL_f : newL false = .own (.dK [] []) := rfl
theorem l_callN' (j : Nat) (as : List Arg) (t : Bool) (bs : List Arg) (ρ : Env) : evL Φ (.callN j as t bs) ρ = (evAs Φ as ρ).bind (kN1 Φ j t bs) := rfl
theorem v_callN (j : Nat) (as : List Arg) (t : Bool) (bs : List Arg) (ρ : Env) : evE Φ (.callN j as t bs) ρ = froE (evL Φ (.callN j as t bs) ρ) := by
  rw [l_callN', evE]
  unfold froE
  rw [ER.assoc]
  congr 1
  funext avs ρ1
  unfold kN1
  rw [ER.assoc]
  rfl
theorem v_callT (j k : Nat) (as cs bs : List Arg) (ρ : Env) : evE Φ (.callT j as k cs bs) ρ = froE (evL Φ (.callT j as k cs bs) ρ) := by
  rw [l_callT', evE]
  unfold froE
  rw [ER.assoc]
  congr 1
  funext avs ρ1
  unfold kT1
  rw [ER.assoc]
  congr 1
  funext cvs ρ2
  unfold kT2
  rw [ER.assoc]
  congr 1
  funext l ρ3
  unfold kT3
  rw [ER.assoc]
  rfl
theorem kT4_eq (j : Nat) (avs : List AV) (l : LV) (bvs : List AV) (ρ : Env) : kT4 Φ j avs l bvs ρ = dropT (callE (Φ j) (avs.map AV.sh ++ .ref 0 :: bvs.map AV.sh) (some l :: ρ)) := by rfl
theorem dropT_ok (l : LV) (x : Option LV) (ρ : Env) : dropT (.ok l (x :: ρ)) = .ok l ρ := by rfl
theorem dropT_ex (c : Str) (x : Option LV) (ρ : Env) : dropT (.ex c (x :: ρ)) = .ex c ρ := by rfl
theorem dropT_st : dropT .st = .st := by rfl
theorem sh_val (p : PV) : AV.sh (.val p) = .val p := by rfl
theorem sh_ref (i : Nat) : AV.sh (.ref i) = .ref (i + 1) := by rfl
def kXt (ps : List PV) (ρ : Env) : ER PV := if ps.length ≤ LIM then .ok (.xt ps) ρ else .st
theorem v_xtup (es : List Ex) (ρ : Env) : evE Φ (.xtup es) ρ = (evEs Φ es ρ).bind kXt := by rw [evE]; rfl
theorem l_xtup (i : List Ex) (ρ : Env) : evL Φ (.xtup i) ρ = (evE Φ (.xtup i) ρ).bind kFro := rfl
theorem v_rev (a : Ex) (ρ : Env) : evSrc Φ (.rev a) ρ = (evE Φ a ρ).bind kRv := by rw [evSrc]; rfl
/-- one of two functions -/
def kSel (j1 j2 : Nat) (as : List Arg) (o : Option LV) (ρ : Env) : ER LV := match o with
  | some (.fro (.int 0)) => (evAs Φ as ρ).bind fun avs ρ1 => callE (Φ j1) avs ρ1
  | some (.fro (.int 1)) => (evAs Φ as ρ).bind fun avs ρ1 => callE (Φ j2) avs ρ1
  | _ => .st
theorem l_sel' (j1 j2 i : Nat) (as : List Arg) (ρ : Env) : evL Φ (.sel j1 j2 i as) ρ = kSel (Φ := Φ) j1 j2 as (at' ρ i) ρ := rfl
theorem v_sel (j1 j2 i : Nat) (as : List Arg) (ρ : Env) : evE Φ (.sel j1 j2 i as) ρ = froE (kSel (Φ := Φ) j1 j2 as (at' ρ i) ρ) := by
  rw [evE]
  generalize at' ρ i = z
  unfold kSel
  split
  · unfold froE; exact (ER.assoc ..).symm
  · unfold froE; exact (ER.assoc ..).symm
  · rename_i n1 n2
    first
      | rfl
      | (split <;> first | exact absurd rfl n1 | exact absurd rfl n2 | rfl)
theorem kSel_0 (j1 j2 : Nat) (as : List Arg) (ρ : Env) : kSel (Φ := Φ) j1 j2 as (some (.fro (.int 0))) ρ = (evAs Φ as ρ).bind (kCallL Φ j1) := rfl
theorem kSel_1 (j1 j2 : Nat) (as : List Arg) (ρ : Env) : kSel (Φ := Φ) j1 j2 as (some (.fro (.int 1))) ρ = (evAs Φ as ρ).bind (kCallL Φ j2) := rfl
/-! values of our own -/
theorem l_app (o : Op) (as : List Arg) (ρ : Env) : evL Φ (.app o as) ρ = (evE Φ (.app o as) ρ).bind (kOwnV o) := rfl
theorem l_mth' (o : Op) (a : Arg) (as : List Arg) (ρ : Env) : evL Φ (.mth o a as) ρ = (evE Φ (.mth o a as) ρ).bind (kOwnV o) := rfl
theorem l_lst' (es : List Ex) (ρ : Env) : evL Φ (.lst es) ρ = (evE Φ (.lst es) ρ).bind kOwn := rfl
theorem l_dnewT' (ρ : Env) : evL Φ .dnewT ρ = .ok (.own (.dT [] [])) ρ := rfl
theorem l_dnewX' (ρ : Env) : evL Φ .dnewX ρ = .ok (.own (.dX [] [])) ρ := rfl
theorem l_dnew' (ρ : Env) : evL Φ .dnew ρ = .ok (.own (.dK [] [])) ρ := rfl
theorem l_call' (j : Nat) (as : List Arg) (ρ : Env) : evL Φ (.call j as) ρ = (evAs Φ as ρ).bind (kCallL Φ j) := rfl
theorem l_comp' (s : Src) (t : Tg) (vs : List Nat) (c : List Tst) (e : Ex) (ρ : Env) : evL Φ (.comp s t vs c e) ρ = (evE Φ (.comp s t vs c e) ρ).bind kOwn := rfl
theorem l_compK' (i : Nat) (t : Tg) (vs : List Nat) (c : List Tst) (e : Ex) (ρ : Env) : evL Φ (.compK i t vs c e) ρ = (evE Φ (.compK i t vs c e) ρ).bind kOwn := rfl
theorem l_compO' (i : Nat) (t : Tg) (vs : List Nat) (c : List Tst) (e : Ex) (ρ : Env) : evL Φ (.compO i t vs c e) ρ = (evE Φ (.compO i t vs c e) ρ).bind kOwn := rfl
def kMv (i : Nat) (ρ : Env) (o : Option LV) : ER LV := match o with
  | some (.own p) => .ok (.own p) (ρ.set i none)
  | some (.fro p) => .ok (.fro p) ρ
  | _ => .st
theorem l_mvv' (i : Nat) (ρ : Env) : evL Φ (.mvv i) ρ = kMv i ρ (at' ρ i) := rfl
theorem kMv_o (i : Nat) (ρ : Env) (p : PV) : kMv i ρ (some (.own p)) = .ok (.own p) (ρ.set i none) := rfl
theorem kMv_f (i : Nat) (ρ : Env) (p : PV) : kMv i ρ (some (.fro p)) = .ok (.fro p) ρ := rfl
theorem l_var (i : Nat) (ρ : Env) : evL Φ (.var i) ρ = (evE Φ (.var i) ρ).bind kFro := rfl
theorem l_cst (i : PV) (ρ : Env) : evL Φ (.cst i) ρ = .ok (.fro i) ρ := by
  show (evE Φ (.cst i) ρ).bind kFro = _
  rw [v_cst]; rfl
theorem l_tup (i : List Ex) (ρ : Env) : evL Φ (.tup i) ρ = (evE Φ (.tup i) ρ).bind kFro := rfl
theorem l_and (a b : Ex) (ρ : Env) : evL Φ (.and a b) ρ = (evE Φ (.and a b) ρ).bind kFro := rfl
theorem l_or (a b : Ex) (ρ : Env) : evL Φ (.or a b) ρ = (evE Φ (.or a b) ρ).bind kFro := rfl
theorem l_popD (i : Nat) (e : Ex) (ρ : Env) : evL Φ (.popD i e) ρ = (evE Φ (.popD i e) ρ).bind kFro := rfl
theorem l_popE (i : Nat) (e : Ex) (ρ : Env) : evL Φ (.popE i e) ρ = (evE Φ (.popE i e) ρ).bind kFro := rfl
theorem l_popL (i : Nat) (ρ : Env) : evL Φ (.popL i) ρ = (evE Φ (.popL i) ρ).bind kFro := rfl
theorem l_not (a : Ex) (ρ : Env) : evL Φ (.not a) ρ = (evE Φ (.not a) ρ).bind kFro := rfl
theorem l_ite (c : Tst) (a b : Ex) (ρ : Env) : evL Φ (.ite c a b) ρ = (evE Φ (.ite c a b) ρ).bind kFro := rfl
theorem l_chain3 (o1 o2 o3 : Op) (a b c d : Ex) (ρ : Env) : evL Φ (.chain3 o1 o2 o3 a b c d) ρ = (evE Φ (.chain3 o1 o2 o3 a b c d) ρ).bind kFro := rfl
theorem l_chain (o1 o2 : Op) (a b c : Ex) (ρ : Env) : evL Φ (.chain o1 o2 a b c) ρ = (evE Φ (.chain o1 o2 a b c) ρ).bind kFro := rfl
theorem l_sl2 (a : Arg) (lo hi : Ex) (ρ : Env) : evL Φ (.sl2 a lo hi) ρ = (evE Φ (.sl2 a lo hi) ρ).bind kFro := rfl
/-! statements -/
theorem x_set (i : Nat) (e : Ex) (ρ : Env) : exS Φ n (.set i e) ρ = (evL Φ e ρ).so (kSet i) := by rw [exS]; rfl
theorem x_unp (t : Tg) (e : Ex) (ρ : Env) : exS Φ n (.unp t e) ρ = (evE Φ e ρ).so (kUnp t) := by rw [exS]; rfl
theorem x_par (is : List Nat) (es : List Ex) (ρ : Env) : exS Φ n (.par is es) ρ = (evEs Φ es ρ).so (kPar is) := by rw [exS]; rfl
theorem x_setIx (i : Nat) (k e : Ex) (ρ : Env) : exS Φ n (.setIx i k e) ρ = (evE Φ e ρ).so (kSI1 Φ i k) := by rw [exS]; rfl
theorem x_app (i : Nat) (e : Ex) (ρ : Env) : exS Φ n (.app i e) ρ = if ownL ρ i = true then (evE Φ e ρ).so (kApp i) else .st := by rw [exS]; rfl
theorem x_ext (i : Nat) (e : Ex) (ρ : Env) : exS Φ n (.ext i e) ρ = if ownL ρ i = true then (evE Φ e ρ).so (kExt i) else .st := by rw [exS]; rfl
theorem x_popA (i : Nat) (e : Ex) (ρ : Env) : exS Φ n (.popA i e) ρ = if ownL ρ i = true then (evE Φ e ρ).so (kPopA i) else .st := by rw [exS]; rfl
theorem x_insA (i : Nat) (k e : Ex) (ρ : Env) : exS Φ n (.insA i k e) ρ = if ownL ρ i = true then (evE Φ k ρ).so (kIns1 Φ i e) else .st := by rw [exS]; rfl
theorem x_ex (e : Ex) (ρ : Env) : exS Φ n (.ex e) ρ = (evE Φ e ρ).so kEx := by rw [exS]; rfl
theorem x_ret (e : Ex) (ρ : Env) : exS Φ n (.ret e) ρ = (evL Φ e ρ).so kRet := by rw [exS]; rfl
theorem x_retV (i : Nat) (ρ : Env) : exS Φ n (.retV i) ρ = match at' ρ i with
    | some l => .rt l (ρ.set i none)
    | none => .st := by rw [exS]; try rfl
theorem x_retN (ρ : Env) : exS Φ n .retN ρ = .rt (.fro .non) ρ := by rw [exS]
theorem x_if (c : Tst) (a b : List St) (ρ : Env) : exS Φ n (.ite c a b) ρ = (evT Φ c ρ).so (kIf Φ n a b) := by
  rw [exS]; congr 1; funext t ρ; cases t <;> rfl
theorem x_whl (c : Tst) (b : List St) (ρ : Env) : exS Φ n (.whl c b) ρ = whlL (evT Φ c) (exSs Φ n b) n ρ := by rw [exS]
theorem x_for (s : Src) (t : Tg) (b : List St) (ρ : Env) (h : ∀ i it, s ≠ .lock i it) : exS Φ n (.for s t b) ρ = (evSrc Φ s ρ).so (kFor Φ n t b) := by
  cases s with
  | lock i it => exact absurd rfl (h i it)
  | _ => rw [exS] <;> first | rfl | (intro i it z; cases z)
def kLock (i : Nat) (it : Bool) (t : Tg) (b : List St) (ρ : Env) (l : Option LV) : SO := match l with
  | some (.own (.dK ks vs)) => lockR i (.own (.dK ks vs)) (forL (bindS (exSs Φ n b) t) (if it = true then itemsP ks vs else keysP ks) (ρ.set i (some (.fro (.dK ks vs)))))
  | _ => .st
def lockV (i : Nat) (l : LV) (v : Option LV) (ρ : Env) : SO := match v with
  | some w => .rt w ((thin ρ).set i (some l))
  | none => .st
theorem x_lock (i : Nat) (it : Bool) (t : Tg) (b : List St) (ρ : Env) : exS Φ n (.for (.lock i it) t b) ρ = kLock (Φ := Φ) (n := n) i it t b ρ (at' ρ i) := by
  rw [exS]
  unfold kLock
  rfl
theorem kLock_d (i : Nat) (it : Bool) (t : Tg) (b : List St) (ρ : Env) (ks : List Key) (vs : List PV) : kLock (Φ := Φ) (n := n) i it t b ρ (some (.own (.dK ks vs))) = lockR i (.own (.dK ks vs)) (forL (bindS (exSs Φ n b) t) (if it = true then itemsP ks vs else keysP ks) (ρ.set i (some (.fro (.dK ks vs))))) := rfl
theorem lockE_ok (i : Nat) (l : LV) (ys : List PV) (ρ : Env) : lockE i l (.ok (.lst ys) ρ) = if PV.noDs ys = true then .ok (.lst ys) ((thin ρ).set i (some l)) else .st := rfl
theorem lockR_nx (i : Nat) (l : LV) (ρ : Env) : lockR i l (.nx ρ) = .nx ((thin ρ).set i (some l)) := rfl
theorem lockR_rt (i : Nat) (l v : LV) (ρ : Env) : lockR i l (.rt v ρ) = lockV i l (thinL v) ρ := by
  unfold lockR lockV
  rfl
theorem lockV_s (i : Nat) (l v : LV) (ρ : Env) : lockV i l (some v) ρ = .rt v ((thin ρ).set i (some l)) := rfl
theorem thin_0 : thin [] = [] := rfl
theorem thin_c (o : Option LV) (ρ : Env) : thin (o :: ρ) = thinO o :: thin ρ := rfl
theorem thinO_n : thinO none = none := rfl
theorem thinO_s (l : LV) : thinO (some l) = thinL l := rfl
theorem thinL_f (p : PV) : thinL (.fro p) = if p.noD = true then some (.fro p) else none := rfl
theorem thinL_l (l : List PV) : thinL (.own (.lst l)) = if PV.noDs l = true then some (.own (.lst l)) else none := rfl
theorem thinL_d (ks : List Key) (l : List PV) : thinL (.own (.dK ks l)) = if PV.noDs l = true then some (.own (.dK ks l)) else none := rfl
theorem thinL_t (ks : List (List Key)) (l : List PV) : thinL (.own (.dT ks l)) = if PV.noDs l = true then some (.own (.dT ks l)) else none := rfl
theorem noD_n : PV.noD .non = true := rfl
theorem noD_b (b : Bool) : PV.noD (.bl b) = true := rfl
theorem noD_i (i : Int) : PV.noD (.int i) = true := rfl
theorem noD_s (i : Str) : PV.noD (.str i) = true := rfl
theorem noD_e (i : Str) : PV.noD (.exc i) = true := rfl
theorem noD_t (l : List PV) : PV.noD (.tup l) = PV.noDs l := by rw [PV.noD]
theorem noD_x (l : List PV) : PV.noD (.xt l) = PV.noDs l := by rw [PV.noD]
theorem noD_l (l : List PV) : PV.noD (.lst l) = PV.noDs l := by rw [PV.noD]
theorem noD_d (ks : List Key) (l : List PV) : PV.noD (.dK ks l) = false := by rw [PV.noD]
theorem noDs_0 : PV.noDs [] = true := by rw [PV.noDs]
theorem noDs_c (p : PV) (l : List PV) : PV.noDs (p :: l) = (p.noD && PV.noDs l) := by rw [PV.noDs]
theorem noDs_all : ∀ (l : List PV), PV.noDs l = l.all PV.noD
  | [] => noDs_0
  | p :: l => by rw [noDs_c, noDs_all l, List.all_cons]
theorem noDs_i (l : List Int) : PV.noDs (l.map .int) = true := by
  rw [noDs_all, List.all_map]
  exact List.all_eq_true.mpr fun x _ => rfl
theorem x_brk (ρ : Env) : exS Φ n .brk ρ = .bk ρ := by rw [exS]
theorem x_cont (ρ : Env) : exS Φ n .cont ρ = .ct ρ := by rw [exS]
theorem x_pass (ρ : Env) : exS Φ n .pass ρ = .nx ρ := by rw [exS]
theorem x_try (b : List St) (x : Str) (i : Option Nat) (kn : List Str) (s : List St) (ρ : Env) : exS Φ n (.tryx b x i kn s) ρ = tryK x i kn (exSs Φ n s) (exSs Φ n b ρ) := by rw [exS]
theorem tryK_nx (x : Str) (i : Option Nat) (kn : List Str) (f : Env → SO) (ρ : Env) : tryK x i kn f (.nx ρ) = .nx ρ := rfl
theorem tryK_rt (x : Str) (i : Option Nat) (kn : List Str) (f : Env → SO) (l : LV) (ρ : Env) : tryK x i kn f (.rt l ρ) = .rt l ρ := rfl
theorem tryK_bk (x : Str) (i : Option Nat) (kn : List Str) (f : Env → SO) (ρ : Env) : tryK x i kn f (.bk ρ) = .bk ρ := rfl
theorem tryK_ct (x : Str) (i : Option Nat) (kn : List Str) (f : Env → SO) (ρ : Env) : tryK x i kn f (.ct ρ) = .ct ρ := rfl
theorem suiteX_nx (i : Option Nat) (ρ : Env) : suiteX i (.nx ρ) = .nx (goneX i ρ) := rfl
theorem suiteX_bk (i : Option Nat) (ρ : Env) : suiteX i (.bk ρ) = .bk (goneX i ρ) := rfl
theorem suiteX_ct (i : Option Nat) (ρ : Env) : suiteX i (.ct ρ) = .ct (goneX i ρ) := rfl
theorem suiteX_rt (i : Option Nat) (l : LV) (ρ : Env) : suiteX i (.rt l ρ) = .rt l ρ := rfl
theorem setX_some (i : Nat) (c : Str) (ρ : Env) : setX (some i) c ρ = ρ.set i (some (.fro (.exc c))) := rfl
theorem setX_none (c : Str) (ρ : Env) : setX none c ρ = ρ := rfl
theorem goneX_some (i : Nat) (ρ : Env) : goneX (some i) ρ = ρ.set i none := rfl
theorem goneX_none (ρ : Env) : goneX none ρ = ρ := rfl
theorem x_raise (c : Str) (ρ : Env) : exS Φ n (.raise c) ρ = .ex c ρ := by rw [exS]
end
theorem dn_non : PV.dn .non = .non := rfl
theorem dn_bl (b : Bool) : PV.dn (.bl b) = .bl b := rfl
theorem dn_int (i : Int) : PV.dn (.int i) = .int i := rfl
theorem dn_str (i : Str) : PV.dn (.str i) = .str i := rfl
theorem dn_ty (i : String) : PV.dn (.ty i) = .ty i := rfl
theorem dn_exc (i : Str) : PV.dn (.exc i) = .exc i := rfl
theorem dn_tup (l : List PV) : PV.dn (.tup l) = .tup l := rfl
theorem dn_xt (l : List PV) : PV.dn (.xt l) = .tup l := rfl
theorem dn_lst (l : List PV) : PV.dn (.lst l) = .lst l := rfl
theorem dn_dK (k : List Key) (l : List PV) : PV.dn (.dK k l) = .dK k l := rfl
theorem dn_dT (k : List (List Key)) (l : List PV) : PV.dn (.dT k l) = .dT k l := rfl
theorem dn_dX (k l : List PV) : PV.dn (.dX k l) = .dX k l := rfl
theorem dn_gt (l : List PV) : PV.dn (.gt l) = .tup l := rfl
theorem dn_obj (c : Str) (ns : List Str) (l : List PV) : PV.dn (.obj c ns l) = .obj c ns l := rfl
theorem dn_dn (p : PV) : p.dn.dn = p.dn := by cases p <;> rfl
theorem isD_dn (n : Nat) (p : PV) : p.dn.isD n = p.isD n := by
  cases p with
  | xt l => cases n <;> (simp only [PV.dn]; unfold PV.isD; rfl)
  | gt l => cases n <;> (simp only [PV.dn]; unfold PV.isD; rfl)
  | _ => rfl
theorem toD_dn (p : PV) : p.dn.toD = p.toD := by
  cases p with
  | xt l => simp only [PV.dn]; unfold PV.toD; rfl
  | gt l => simp only [PV.dn]; unfold PV.toD; rfl
  | _ => rfl
theorem eqP_dnl (p q : PV) : eqP p.dn q = eqP p q := by unfold eqP; rw [toD_dn]
theorem eqP_dnr (p q : PV) : eqP p q.dn = eqP p q := by unfold eqP; rw [toD_dn]
theorem opX_add (ps : List PV) : opX .add ps = opSem .add ps := rfl
theorem opX_sub (ps : List PV) : opX .sub ps = opSem .sub (ps.map PV.dn) := rfl
theorem opX_mul (ps : List PV) : opX .mul ps = opSem .mul ps := rfl
theorem opX_fdiv (ps : List PV) : opX .fdiv ps = opSem .fdiv (ps.map PV.dn) := rfl
theorem opX_mod (ps : List PV) : opX .mod ps = opSem .mod (ps.map PV.dn) := rfl
theorem opX_pow (ps : List PV) : opX .pow ps = opSem .pow (ps.map PV.dn) := rfl
theorem opX_neg (ps : List PV) : opX .neg ps = opSem .neg (ps.map PV.dn) := rfl
theorem opX_eq (ps : List PV) : opX .eq ps = opSem .eq (ps.map PV.dn) := rfl
theorem opX_ne (ps : List PV) : opX .ne ps = opSem .ne (ps.map PV.dn) := rfl
theorem opX_lt (ps : List PV) : opX .lt ps = opSem .lt (ps.map PV.dn) := rfl
theorem opX_le (ps : List PV) : opX .le ps = opSem .le (ps.map PV.dn) := rfl
theorem opX_gt (ps : List PV) : opX .gt ps = opSem .gt (ps.map PV.dn) := rfl
theorem opX_ge (ps : List PV) : opX .ge ps = opSem .ge (ps.map PV.dn) := rfl
theorem opX_isN (ps : List PV) : opX .isN ps = opSem .isN (ps.map PV.dn) := rfl
theorem opX_isNN (ps : List PV) : opX .isNN ps = opSem .isNN (ps.map PV.dn) := rfl
theorem opX_inn (ps : List PV) : opX .inn ps = opSem .inn (ps.map PV.dn) := rfl
theorem opX_nin (ps : List PV) : opX .nin ps = opSem .nin (ps.map PV.dn) := rfl
theorem opX_len (ps : List PV) : opX .len ps = opSem .len (ps.map PV.dn) := rfl
theorem opX_sum (ps : List PV) : opX .sum ps = opSem .sum (ps.map PV.dn) := rfl
theorem opX_abs (ps : List PV) : opX .abs ps = opSem .abs (ps.map PV.dn) := rfl
theorem opX_int1 (ps : List PV) : opX .int1 ps = opSem .int1 (ps.map PV.dn) := rfl
theorem opX_str1 (ps : List PV) : opX .str1 ps = opSem .str1 (ps.map PV.dn) := rfl
theorem opX_tuple1 (ps : List PV) : opX .tuple1 ps = opSem .tuple1 ps := rfl
theorem opX_list1 (ps : List PV) : opX .list1 ps = opSem .list1 (ps.map PV.dn) := rfl
theorem opX_sorted (ps : List PV) : opX .sorted ps = opSem .sorted (ps.map PV.dn) := rfl
theorem opX_allL (ps : List PV) : opX .allL ps = opSem .allL (ps.map PV.dn) := rfl
theorem opX_anyL (ps : List PV) : opX .anyL ps = opSem .anyL (ps.map PV.dn) := rfl
theorem opX_min2 (ps : List PV) : opX .min2 ps = opSem .min2 (ps.map PV.dn) := rfl
theorem opX_max3 (ps : List PV) : opX .max3 ps = opSem .max3 (ps.map PV.dn) := rfl
theorem opX_min3 (ps : List PV) : opX .min3 ps = opSem .min3 (ps.map PV.dn) := rfl
theorem opX_max2 (ps : List PV) : opX .max2 ps = opSem .max2 (ps.map PV.dn) := rfl
theorem opX_minL (ps : List PV) : opX .minL ps = opSem .minL (ps.map PV.dn) := rfl
theorem opX_maxL (ps : List PV) : opX .maxL ps = opSem .maxL (ps.map PV.dn) := rfl
theorem opX_idx (ps : List PV) : opX .idx ps = opSem .idx (ps.map PV.dn) := rfl
theorem opX_rev (ps : List PV) : opX .rev ps = opSem .rev (ps.map PV.dn) := rfl
theorem opX_dget (ps : List PV) : opX .dget ps = opSem .dget (ps.map PV.dn) := rfl
theorem opX_values (ps : List PV) : opX .values ps = opSem .values (ps.map PV.dn) := rfl
theorem opX_dmod (ps : List PV) : opX .dmod ps = opSem .dmod (ps.map PV.dn) := rfl
theorem opX_lcnt (ps : List PV) : opX .lcnt ps = opSem .lcnt (ps.map PV.dn) := rfl
theorem opX_tcnt (ps : List PV) : opX .tcnt ps = opSem .tcnt ps := rfl
theorem opX_max2D (ps : List PV) : opX .max2D ps = opSem .max2D ps := rfl
theorem opX_strD (ps : List PV) : opX .strD ps = opSem .strD (ps.map PV.dn) := rfl
theorem opX_valsL (ps : List PV) : opX .valsL ps = opSem .valsL (ps.map PV.dn) := rfl
theorem opX_minV (z : Int) (ps : List PV) : opX (.minV z) ps = opSem (.minV z) (ps.map PV.dn) := rfl
theorem opX_minT (z : Int) (ps : List PV) : opX (.minT z) ps = opSem (.minT z) (ps.map PV.dn) := rfl
theorem opX_addX (ps : List PV) : opX .addX ps = opSem .addX ps := rfl
theorem opX_sset (ps : List PV) : opX .sset ps = opSem .sset (ps.map PV.dn) := rfl
theorem opX_valsS (ps : List PV) : opX .valsS ps = opSem .valsS (ps.map PV.dn) := rfl
theorem opX_lidx (ps : List PV) : opX .lidx ps = opSem .lidx (ps.map PV.dn) := rfl
theorem opX_bits (ps : List PV) : opX .bits ps = opSem .bits (ps.map PV.dn) := rfl
theorem opX_sortedD (ps : List PV) : opX .sortedD ps = opSem .sortedD (ps.map PV.dn) := rfl
theorem opX_minD (ps : List PV) : opX .minD ps = opSem .minD (ps.map PV.dn) := rfl
theorem opX_maxD (ps : List PV) : opX .maxD ps = opSem .maxD (ps.map PV.dn) := rfl
theorem opX_isB (b : Bool) (ps : List PV) : opX (.isB b) ps = opSem (.isB b) (ps.map PV.dn) := rfl
theorem opX_isNB (b : Bool) (ps : List PV) : opX (.isNB b) ps = opSem (.isNB b) (ps.map PV.dn) := rfl
theorem opX_isTy (b : List String) (ps : List PV) : opX (.isTy b) ps = opSem (.isTy b) (ps.map PV.dn) := rfl
theorem opX_slcX (ps : List PV) : opX .slcX ps = opSem .slcX ps := rfl
theorem opX_lsetX (ps : List PV) : opX .lsetX ps = opSem .lsetX (ps.map PV.dn) := rfl
theorem opX_slc (a b : Bool) (ps : List PV) : opX (.slc a b) ps = opSem (.slc a b) ps := rfl
theorem opX_idxT (ps : List PV) : opX .idxT ps = opSem .idxT ps := rfl
theorem opX_dgetT (ps : List PV) : opX .dgetT ps = opSem .dgetT ps := rfl
theorem opX_innT (ps : List PV) : opX .innT ps = opSem .innT ps := rfl
theorem opX_ninT (ps : List PV) : opX .ninT ps = opSem .ninT ps := rfl
theorem opX_sortT (ps : List PV) : opX .sortT ps = opSem .sortT ps := rfl
theorem opX_isEx (a b : List Str) (ps : List PV) : opX (.isEx a b) ps = opSem (.isEx a b) (ps.map PV.dn) := rfl
theorem opX_dict1 (ps : List PV) : opX .dict1 ps = opSem .dict1 ps := rfl
theorem opX_ssetT (ps : List PV) : opX .ssetT ps = opSem .ssetT (ps.map PV.dn) := rfl
theorem opX_lset (ps : List PV) : opX .lset ps = opSem .lset (ps.map PV.dn) := rfl
theorem opX_join (ps : List PV) : opX .join ps = opSem .join (ps.map PV.dn) := rfl
theorem opX_split (ps : List PV) : opX .split ps = opSem .split (ps.map PV.dn) := rfl
theorem opX_strip2 (ps : List PV) : opX .strip2 ps = opSem .strip2 (ps.map PV.dn) := rfl
theorem opX_intS (ps : List PV) : opX .intS ps = opSem .intS (ps.map PV.dn) := rfl
theorem opX_idxS (ps : List PV) : opX .idxS ps = opSem .idxS (ps.map PV.dn) := rfl
theorem opX_inS (ps : List PV) : opX .inS ps = opSem .inS (ps.map PV.dn) := rfl
theorem opX_dictT (ps : List PV) : opX .dictT ps = opSem .dictT ps := rfl
theorem opX_tupleX (ps : List PV) : opX .tupleX ps = opSem .tupleX ps := rfl
def callK (avs : List AV) (ρ : Env) (ls : List LV) (r : CR) : ER LV := match r with
  | .ok r ls' => if ls'.length = ls.length then .ok r (AV.back ρ avs (maskL ls ls')) else .st
  | .ex c ls' => if ls'.length = ls.length then .ex c (AV.back ρ avs (maskL ls ls')) else .st
  | .st => .st
theorem callK_ok (avs : List AV) (ρ : Env) (ls ls' : List LV) (r : LV) : callK avs ρ ls (.ok r ls') = if ls'.length = ls.length then .ok r (AV.back ρ avs (maskL ls ls')) else .st := by
  cases ls <;> rfl
theorem callK_ex (avs : List AV) (ρ : Env) (ls ls' : List LV) (c : Str) : callK avs ρ ls (.ex c ls') = if ls'.length = ls.length then .ex c (AV.back ρ avs (maskL ls ls')) else .st := by
  cases ls <;> rfl
def callK0 (g : List LV → CR) (avs : List AV) (ρ : Env) (o : Option (List LV)) : ER LV := match o with
  | some ls => if (AV.refs avs).Nodup then callK avs ρ ls (g ls) else .st
  | none => .st
theorem callE_k (g : List LV → CR) (avs : List AV) (ρ : Env) : callE g avs ρ = callK0 g avs ρ (AV.lvs ρ avs) := by
  unfold callE callK0
  cases AV.lvs ρ avs with
  | none => rfl
  | some ls =>
    dsimp only
    split
    · unfold callK
      cases g ls <;> rfl
    · rfl
theorem callK0_some (g : List LV → CR) (avs : List AV) (ρ : Env) (ls : List LV) : callK0 g avs ρ (some ls) = if (AV.refs avs).Nodup then callK avs ρ ls (g ls) else .st := by
  cases ls <;> rfl
def bindK (f : Env → SO) (o : Option Env) : SO := match o with
  | some ρ => f ρ
  | none => .st
theorem bindS_k (f : Env → SO) (t : Tg) (x : PV) (ρ : Env) : bindS f t x ρ = bindK f (t.bind x ρ) := by
  unfold bindS bindK
  cases t.bind x ρ <;> rfl
theorem bindK_some (f : Env → SO) (ρ : Env) : bindK f (some ρ) = f ρ := by
  cases ρ <;> rfl
theorem bindK_none (f : Env → SO) : bindK f none = .st := rfl
def SO.seq (r : SO) (k : Env → SO) : SO := match r with
  | .nx ρ => k ρ
  | r => r
theorem SO.seq_nx (ρ : Env) (k : Env → SO) : (SO.nx ρ).seq k = k ρ := rfl
theorem SO.seq_rt (l : LV) (ρ : Env) (k : Env → SO) : (SO.rt l ρ).seq k = .rt l ρ := rfl
theorem SO.seq_ex (l : Str) (ρ : Env) (k : Env → SO) : (SO.ex l ρ).seq k = .ex l ρ := rfl
theorem SO.seq_bk (ρ : Env) (k : Env → SO) : (SO.bk ρ).seq k = .bk ρ := rfl
theorem SO.seq_ct (ρ : Env) (k : Env → SO) : (SO.ct ρ).seq k = .ct ρ := rfl
theorem SO.seq_st (k : Env → SO) : SO.st.seq k = .st := rfl
theorem exSs_nil (Φ : Nat → List LV → CR) (n : Nat) (ρ : Env) : exSs Φ n [] ρ = .nx ρ := by unfold exSs; rfl
theorem exSs_cons (Φ : Nat → List LV → CR) (n : Nat) (s : St) (ss : List St) (ρ : Env) : exSs Φ n (s :: ss) ρ = (exS Φ n s ρ).seq (exSs Φ n ss) := by
  rw [exSs]
  cases exS Φ n s ρ <;> rfl
def SO.fin (np : Nat) (r : SO) : CR := match r with
  | .nx ρ => match lvsOf ρ np with
    | some as => .ok (.fro .non) as
    | none => .st
  | .rt l ρ => match lvsOf ρ np with
    | some as => .ok l as
    | none => .st
  | .ex c ρ => match lvsOf ρ np with
    | some as => .ex c as
    | none => .st
  | _ => .st
theorem SO.fin_nx (np : Nat) (ρ : Env) : (SO.nx ρ).fin np = match lvsOf ρ np with
    | some as => .ok (.fro .non) as
    | none => .st := rfl
theorem SO.fin_rt (np : Nat) (l : LV) (ρ : Env) : (SO.rt l ρ).fin np = match lvsOf ρ np with
    | some as => .ok l as
    | none => .st := rfl
theorem SO.fin_ex (np : Nat) (l : Str) (ρ : Env) : (SO.ex l ρ).fin np = match lvsOf ρ np with
    | some as => .ex l as
    | none => .st := rfl
theorem runFn_eq (Φ : Nat → List LV → CR) (n : Nat) (f : Fn) (ls : List LV) (h : ls.length = f.np ∧ f.np ≤ f.nn ∧ ioOk f.io 0 ls = true) : runFn Φ n f ls = (exSs Φ n f.body (Br.frameOf f ls)).fin f.np := by
  unfold runFn
  rw [if_pos h]
  unfold SO.fin
  cases exSs Φ n f.body (Br.frameOf f ls) <;> rfl
theorem kit_NoneType_int : kitB "NoneType" "int" = some false := by decide +kernel
theorem kit_NoneType_bool : kitB "NoneType" "bool" = some false := by decide +kernel
theorem kit_NoneType_str : kitB "NoneType" "str" = some false := by decide +kernel
theorem kit_NoneType_tuple : kitB "NoneType" "tuple" = some false := by decide +kernel
theorem kit_NoneType_list : kitB "NoneType" "list" = some false := by decide +kernel
theorem kit_NoneType_dict : kitB "NoneType" "dict" = some false := by decide +kernel
theorem kit_bool_int : kitB "bool" "int" = some true := by decide +kernel
theorem kit_bool_bool : kitB "bool" "bool" = some true := by decide +kernel
theorem kit_bool_str : kitB "bool" "str" = some false := by decide +kernel
theorem kit_bool_tuple : kitB "bool" "tuple" = some false := by decide +kernel
theorem kit_bool_list : kitB "bool" "list" = some false := by decide +kernel
theorem kit_bool_dict : kitB "bool" "dict" = some false := by decide +kernel
theorem kit_int_int : kitB "int" "int" = some true := by decide +kernel
theorem kit_int_bool : kitB "int" "bool" = some false := by decide +kernel
theorem kit_int_str : kitB "int" "str" = some false := by decide +kernel
theorem kit_int_tuple : kitB "int" "tuple" = some false := by decide +kernel
theorem kit_int_list : kitB "int" "list" = some false := by decide +kernel
theorem kit_int_dict : kitB "int" "dict" = some false := by decide +kernel
theorem kit_str_int : kitB "str" "int" = some false := by decide +kernel
theorem kit_str_bool : kitB "str" "bool" = some false := by decide +kernel
theorem kit_str_str : kitB "str" "str" = some true := by decide +kernel
theorem kit_str_tuple : kitB "str" "tuple" = some false := by decide +kernel
theorem kit_str_list : kitB "str" "list" = some false := by decide +kernel
theorem kit_str_dict : kitB "str" "dict" = some false := by decide +kernel
theorem kit_tuple_int : kitB "tuple" "int" = some false := by decide +kernel
theorem kit_tuple_bool : kitB "tuple" "bool" = some false := by decide +kernel
theorem kit_tuple_str : kitB "tuple" "str" = some false := by decide +kernel
theorem kit_tuple_tuple : kitB "tuple" "tuple" = some true := by decide +kernel
theorem kit_tuple_list : kitB "tuple" "list" = some false := by decide +kernel
theorem kit_tuple_dict : kitB "tuple" "dict" = some false := by decide +kernel
theorem kit_list_int : kitB "list" "int" = some false := by decide +kernel
theorem kit_list_bool : kitB "list" "bool" = some false := by decide +kernel
theorem kit_list_str : kitB "list" "str" = some false := by decide +kernel
theorem kit_list_tuple : kitB "list" "tuple" = some false := by decide +kernel
theorem kit_list_list : kitB "list" "list" = some true := by decide +kernel
theorem kit_list_dict : kitB "list" "dict" = some false := by decide +kernel
theorem kit_dict_int : kitB "dict" "int" = some false := by decide +kernel
theorem kit_dict_bool : kitB "dict" "bool" = some false := by decide +kernel
theorem kit_dict_str : kitB "dict" "str" = some false := by decide +kernel
theorem kit_dict_tuple : kitB "dict" "tuple" = some false := by decide +kernel
theorem kit_dict_list : kitB "dict" "list" = some false := by decide +kernel
theorem kit_dict_dict : kitB "dict" "dict" = some true := by decide +kernel
def froO (x : Option (Option LV)) : Option LV := match x with
  | some (some (.fro p)) => some (.fro p)
  | _ => none
theorem froO_f (p : PV) : froO (some (some (.fro p))) = some (.fro p) := rfl
theorem froO_n : froO (some none) = none := rfl
theorem froO_0 : froO none = none := rfl
theorem froO_o (p : PV) : froO (some (some (.own p))) = none := rfl
theorem backE_nil (ρ ρ' : Env) : backE ρ ρ' [] = ρ' := by unfold backE; rfl
theorem backE_cons (ρ ρ' : Env) (v : Nat) (vs : List Nat) : backE ρ ρ' (v :: vs) = (backE ρ ρ' vs).set v (froO ρ[v]?) := by
  rw [backE]
  unfold froO
  split <;> simp_all
theorem compL_map {f : PV → Env → ER (Option PV)} {h : PV → PV} {ρ : Env} : ∀ {xs : List PV}, (∀ x ∈ xs, f x ρ = .ok (some (h x)) ρ) → compL f xs ρ = .ok (xs.map h) ρ
  | [], _ => rfl
  | x :: xs, H => by
    unfold compL
    rw [H x (by simp)]
    dsimp only
    rw [compL_map fun y hy => H y (by simp [hy])]
    rfl
theorem compL_fmap {f : PV → Env → ER (Option PV)} {h : PV → Option PV} {ρ : Env} : ∀ {xs : List PV}, (∀ x ∈ xs, f x ρ = .ok (h x) ρ) → compL f xs ρ = .ok (xs.filterMap h) ρ
  | [], _ => rfl
  | x :: xs, H => by
    unfold compL
    rw [H x (by simp)]
    rw [List.filterMap_cons]
    cases h x with
    | none => exact compL_fmap fun y hy => H y (by simp [hy])
    | some z =>
      dsimp only
      rw [compL_fmap fun y hy => H y (by simp [hy])]
/-- a loop whose body goes on -/
theorem forL_inv {f : PV → Env → SO} {xs : List PV} {ρ : Env} (I : Nat → Env → Prop) (h0 : I 0 ρ) (step : ∀ i x ρ, xs[i]? = some x → I i ρ → ∃ ρ', (f x ρ = .nx ρ' ∨ f x ρ = .ct ρ') ∧ I (i + 1) ρ') : ∃ ρ', forL f xs ρ = .nx ρ' ∧ I xs.length ρ' := by
  induction xs generalizing ρ I with
  | nil => exact ⟨ρ, rfl, h0⟩
  | cons x xs ih =>
    obtain ⟨ρ1, h1, i1⟩ := step 0 x ρ rfl h0
    obtain ⟨ρ2, h2, i2⟩ := ih (fun i => I (i + 1)) i1 fun i y ρ hy hi => step (i + 1) y ρ (by simpa using hy) hi
    refine ⟨ρ2, ?_, by simpa using i2⟩
    unfold forL
    rcases h1 with h1 | h1 <;> rw [h1] <;> exact h2
/-- an int, a bool, a list read off -/
def PV.i : PV → Int
  | .int i => i
  | _ => 0
theorem PV.i_int (i : Int) : (PV.int i).i = i := rfl
theorem rngP_at {a b : Int} {i : Nat} {x : PV} (h : (rngP a b)[i]? = some x) : x = .int (a + (i : Nat)) ∧ (i : Int) < b - a := by
  have h1 := (List.getElem?_eq_some_iff.mp h).1
  have hlen : (rngP a b).length = (b - a).toNat := by simp [rngP]
  rw [hlen] at h1
  have h2 := (List.getElem?_eq_some_iff.mp h).2
  refine ⟨?_, by omega⟩
  rw [← h2]
  simp [rngP]
theorem rngP_len (a b : Int) : (rngP a b).length = (b - a).toNat := by simp [rngP]
theorem log2_lt_9000 {n : Nat} (h : n < 2 ^ 256) : n.log2 < 9000 := by
  by_cases h0 : n = 0
  · subst h0; simp
  · have := (Nat.log2_lt h0).mpr h
    omega
theorem atI_in {α : Type} {l : List α} {x : Int} (h0 : 0 ≤ x) (h1 : x < l.length) : ∃ v ∈ l, L2.atI l x = some v := by
  unfold L2.atI L2.ixN
  rw [if_pos h0, if_pos h1]
  have h2 : x.toNat < l.length := by omega
  exact ⟨l[x.toNat], List.getElem_mem h2, by simp [h2]⟩
theorem atI_n {α : Type} (l : List α) (k : Nat) (x : α) (h : l[k]? = some x) : L2.atI l (k : Int) = some x := by
  have hk := (List.getElem?_eq_some_iff.mp h).1
  unfold L2.atI L2.ixN
  rw [if_pos (by omega), if_pos (by omega)]
  simpa using h
theorem atI_0 {α : Type} (x : α) (l : List α) : L2.atI (x :: l) 0 = some x := atI_n _ 0 _ rfl
theorem atI_1 {α : Type} (x y : α) (l : List α) : L2.atI (x :: y :: l) 1 = some y := atI_n _ 1 _ rfl
theorem atI_2 {α : Type} (x y z : α) (l : List α) : L2.atI (x :: y :: z :: l) 2 = some z := atI_n _ 2 _ rfl
theorem rng_ok {a : Int} (h1 : -4611686018427387904 ≤ a) (h2 : a < 4611686018427387904) : rngOk a := ⟨by omega, by omega⟩
theorem mul_ok_r {x y : Int} (h : y.natAbs < 18446744073709551616) : mulOk x y := .inr (.inl (by omega))
theorem mul_ok_l {x y : Int} (h : x.natAbs < 18446744073709551616) : mulOk x y := .inl (by omega)
/-! equality -/
def eqPs (l m : List PV) : Bool := PyData.eqvAll (PV.toDs l) (PV.toDs m)
theorem eqP_ii (a b : Int) : eqP (.int a) (.int b) = decide (a = b) := by
  unfold eqP PV.toD
  rw [PyData.eqv]
  rfl
theorem eqP_ss (a b : Str) : eqP (.str a) (.str b) = decide (a = b) := by
  unfold eqP PV.toD
  rw [PyData.eqv]
  by_cases h : a = b
  · subst h; simp
  · rw [decide_eq_false h]; exact beq_eq_false_iff_ne.mpr h
theorem eqP_bb (a b : Bool) : eqP (.bl a) (.bl b) = (a == b) := by
  unfold eqP PV.toD
  rw [PyData.eqv]
theorem eqP_nn : eqP .non .non = true := by
  unfold eqP PV.toD
  rw [PyData.eqv]
theorem eqP_tt (a b : List PV) : eqP (.tup a) (.tup b) = eqPs a b := by
  unfold eqP eqPs
  rw [PV.toD, PV.toD, PyData.eqv]
theorem eqP_ll (a b : List PV) : eqP (.lst a) (.lst b) = eqPs a b := by
  unfold eqP eqPs
  rw [PV.toD, PV.toD, PyData.eqv]
theorem eqPs_00 : eqPs [] [] = true := by
  unfold eqPs
  rw [PV.toDs, PyData.eqvAll]
theorem eqPs_0c (y : PV) (ys : List PV) : eqPs [] (y :: ys) = false := by
  unfold eqPs
  rw [PV.toDs, PV.toDs, PyData.eqvAll]
theorem eqPs_c0 (y : PV) (ys : List PV) : eqPs (y :: ys) [] = false := by
  unfold eqPs
  rw [PV.toDs, PV.toDs, PyData.eqvAll]
theorem eqPs_cc (x y : PV) (xs ys : List PV) : eqPs (x :: xs) (y :: ys) = (eqP x y && eqPs xs ys) := by
  unfold eqPs eqP
  rw [PV.toDs, PV.toDs, PyData.eqvAll]
theorem eqPs_ints : ∀ (l m : List Int), eqPs (l.map .int) (m.map .int) = decide (l = m)
  | [], [] => by simp [eqPs_00]
  | [], _ :: _ => by simp [eqPs_0c]
  | _ :: _, [] => by simp [eqPs_c0]
  | x :: xs, y :: ys => by simp [eqPs_cc, eqP_ii, eqPs_ints xs ys]
theorem eqP_xl (a : List PV) (q : PV) : eqP (.xt a) q = eqP (.tup a) q := by
  unfold eqP
  rw [show (PV.xt a).toD = (PV.tup a).toD from toD_dn (.xt a) ▸ rfl]
theorem eqP_xr (a : List PV) (q : PV) : eqP q (.xt a) = eqP q (.tup a) := by
  unfold eqP
  rw [show (PV.xt a).toD = (PV.tup a).toD from toD_dn (.xt a) ▸ rfl]
theorem eqP_ni  (b : Int) : eqP (.non) (.int b) = false := by
  unfold eqP
  rw [PV.toD, PV.toD, PyData.eqv] <;> (intro _ h; cases h)
theorem eqP_ns  (b : Str) : eqP (.non) (.str b) = false := by
  unfold eqP
  rw [PV.toD, PV.toD, PyData.eqv] <;> (intro _ h; cases h)
theorem eqP_nt  (b : List PV) : eqP (.non) (.tup b) = false := by
  unfold eqP
  rw [PV.toD, PV.toD, PyData.eqv] <;> (intro _ h; cases h)
theorem eqP_nl  (b : List PV) : eqP (.non) (.lst b) = false := by
  unfold eqP
  rw [PV.toD, PV.toD, PyData.eqv] <;> (intro _ h; cases h)
theorem eqP_nb  (b : Bool) : eqP (.non) (.bl b) = false := by
  unfold eqP
  rw [PV.toD, PV.toD, PyData.eqv] <;> (intro _ h; cases h)
theorem eqP_in (a : Int)  : eqP (.int a) (.non) = false := by
  unfold eqP
  rw [PV.toD, PV.toD, PyData.eqv] <;> (intro _ h; cases h)
theorem eqP_is (a : Int) (b : Str) : eqP (.int a) (.str b) = false := by
  unfold eqP
  rw [PV.toD, PV.toD, PyData.eqv] <;> (intro _ h; cases h)
theorem eqP_it (a : Int) (b : List PV) : eqP (.int a) (.tup b) = false := by
  unfold eqP
  rw [PV.toD, PV.toD, PyData.eqv] <;> (intro _ h; cases h)
theorem eqP_il (a : Int) (b : List PV) : eqP (.int a) (.lst b) = false := by
  unfold eqP
  rw [PV.toD, PV.toD, PyData.eqv] <;> (intro _ h; cases h)
theorem eqP_sn (a : Str)  : eqP (.str a) (.non) = false := by
  unfold eqP
  rw [PV.toD, PV.toD, PyData.eqv] <;> (intro _ h; cases h)
theorem eqP_si (a : Str) (b : Int) : eqP (.str a) (.int b) = false := by
  unfold eqP
  rw [PV.toD, PV.toD, PyData.eqv] <;> (intro _ h; cases h)
theorem eqP_st (a : Str) (b : List PV) : eqP (.str a) (.tup b) = false := by
  unfold eqP
  rw [PV.toD, PV.toD, PyData.eqv] <;> (intro _ h; cases h)
theorem eqP_sl (a : Str) (b : List PV) : eqP (.str a) (.lst b) = false := by
  unfold eqP
  rw [PV.toD, PV.toD, PyData.eqv] <;> (intro _ h; cases h)
theorem eqP_sb (a : Str) (b : Bool) : eqP (.str a) (.bl b) = false := by
  unfold eqP
  rw [PV.toD, PV.toD, PyData.eqv] <;> (intro _ h; cases h)
theorem eqP_tn (a : List PV)  : eqP (.tup a) (.non) = false := by
  unfold eqP
  rw [PV.toD, PV.toD, PyData.eqv] <;> (intro _ h; cases h)
theorem eqP_ti (a : List PV) (b : Int) : eqP (.tup a) (.int b) = false := by
  unfold eqP
  rw [PV.toD, PV.toD, PyData.eqv] <;> (intro _ h; cases h)
theorem eqP_ts (a : List PV) (b : Str) : eqP (.tup a) (.str b) = false := by
  unfold eqP
  rw [PV.toD, PV.toD, PyData.eqv] <;> (intro _ h; cases h)
theorem eqP_tl (a : List PV) (b : List PV) : eqP (.tup a) (.lst b) = false := by
  unfold eqP
  rw [PV.toD, PV.toD, PyData.eqv] <;> (intro _ h; cases h)
theorem eqP_tb (a : List PV) (b : Bool) : eqP (.tup a) (.bl b) = false := by
  unfold eqP
  rw [PV.toD, PV.toD, PyData.eqv] <;> (intro _ h; cases h)
theorem eqP_ln (a : List PV)  : eqP (.lst a) (.non) = false := by
  unfold eqP
  rw [PV.toD, PV.toD, PyData.eqv] <;> (intro _ h; cases h)
theorem eqP_li (a : List PV) (b : Int) : eqP (.lst a) (.int b) = false := by
  unfold eqP
  rw [PV.toD, PV.toD, PyData.eqv] <;> (intro _ h; cases h)
theorem eqP_ls (a : List PV) (b : Str) : eqP (.lst a) (.str b) = false := by
  unfold eqP
  rw [PV.toD, PV.toD, PyData.eqv] <;> (intro _ h; cases h)
theorem eqP_lt (a : List PV) (b : List PV) : eqP (.lst a) (.tup b) = false := by
  unfold eqP
  rw [PV.toD, PV.toD, PyData.eqv] <;> (intro _ h; cases h)
theorem eqP_lb (a : List PV) (b : Bool) : eqP (.lst a) (.bl b) = false := by
  unfold eqP
  rw [PV.toD, PV.toD, PyData.eqv] <;> (intro _ h; cases h)
theorem eqP_bn (a : Bool)  : eqP (.bl a) (.non) = false := by
  unfold eqP
  rw [PV.toD, PV.toD, PyData.eqv] <;> (intro _ h; cases h)
theorem eqP_bs (a : Bool) (b : Str) : eqP (.bl a) (.str b) = false := by
  unfold eqP
  rw [PV.toD, PV.toD, PyData.eqv] <;> (intro _ h; cases h)
theorem eqP_bt (a : Bool) (b : List PV) : eqP (.bl a) (.tup b) = false := by
  unfold eqP
  rw [PV.toD, PV.toD, PyData.eqv] <;> (intro _ h; cases h)
theorem eqP_bl (a : Bool) (b : List PV) : eqP (.bl a) (.lst b) = false := by
  unfold eqP
  rw [PV.toD, PV.toD, PyData.eqv] <;> (intro _ h; cases h)
section
variable (Φ : Nat → List LV → CR) (n : Nat)
/-! instances -/
def kMc (j i : Nat) (avs : List AV) (ρ : Env) : ER LV := callE (Φ j) (.ref i :: avs) ρ
def kMk (j : Nat) (c : Str) (avs : List AV) (ρ : Env) : ER LV := madeT (callE (Φ j) (.ref 0 :: avs.map AV.sh) (some (.ins c [] []) :: ρ))
theorem l_mcall' (j i : Nat) (c : Str) (ns : List Str) (as : List Arg) (ρ : Env) : evL Φ (.mcall j i c ns as) ρ = if insAt ρ i c ns = true then (evAs Φ as ρ).bind (kMc Φ j i) else .st := rfl
theorem v_mcall (j i : Nat) (c : Str) (ns : List Str) (as : List Arg) (ρ : Env) : evE Φ (.mcall j i c ns as) ρ = froE (evL Φ (.mcall j i c ns as) ρ) := by
  rw [l_mcall', evE]
  by_cases h : insAt ρ i c ns = true
  · rw [if_pos h, if_pos h]
    unfold froE
    rw [ER.assoc]
    rfl
  · rw [if_neg h, if_neg h]
    rfl
theorem l_make' (j : Nat) (c : Str) (as : List Arg) (ρ : Env) : evL Φ (.make j c as) ρ = (evAs Φ as ρ).bind (kMk Φ j c) := rfl
theorem madeT_ok (l : LV) (ρ : Env) : madeT (.ok (.fro .non) (some l :: ρ)) = .ok l ρ := by rfl
theorem madeT_st : madeT .st = .st := by rfl
theorem v_fld (i : Nat) (c : Str) (ns : List Str) (k : Nat) (ρ : Env) : evE Φ (.fld i c ns k) ρ = fldE ((insLs ρ i c ns).bind fun ls => ls[k]?) ρ := by rw [evE]
theorem fldE_some (p : PV) (ρ : Env) : fldE (some (.fro p)) ρ = .ok p ρ := by rfl
theorem l_fld (i : Nat) (c : Str) (ns : List Str) (k : Nat) (ρ : Env) : evL Φ (.fld i c ns k) ρ = (evE Φ (.fld i c ns k) ρ).bind kFro := rfl
theorem v_fop (o : Op) (i : Nat) (c : Str) (ns : List Str) (k : Nat) (ρ : Env) : evE Φ (.fop o i c ns k) ρ = ER.of (fldO o ((insLs ρ i c ns).bind fun ls => ls[k]?)) ρ := by rw [evE]
theorem fldO_fro (o : Op) (p : PV) : fldO o (some (.fro p)) = opX o [p] := by rfl
theorem fldO_own (o : Op) (p : PV) : fldO o (some (.own p)) = opX o [p] := by rfl
theorem l_fop' (o : Op) (i : Nat) (c : Str) (ns : List Str) (k : Nat) (ρ : Env) : evL Φ (.fop o i c ns k) ρ = (evE Φ (.fop o i c ns k) ρ).bind (kOwnV o) := rfl
theorem x_fset (i : Nat) (c : Str) (ns : List Str) (k : Nat) (e : Ex) (ρ : Env) : exS Φ n (.fset i c ns k e) ρ = (evL Φ e ρ).so (fsetS i c ns k) := by rw [exS]
theorem x_fnew (i : Nat) (c : Str) (ns : List Str) (f : Str) (e : Ex) (ρ : Env) : exS Φ n (.fnew i c ns f e) ρ = (evL Φ e ρ).so (fnewS i c ns f) := by rw [exS]
theorem x_fappV (i : Nat) (c : Str) (ns : List Str) (k j : Nat) (ρ : Env) : exS Φ n (.fappV i c ns k j) ρ = fappS i c ns k (froAt ρ j) ρ := by rw [exS]
theorem x_fappT (i : Nat) (c : Str) (ns : List Str) (k g : Nat) (ρ : Env) : exS Φ n (.fappT i c ns k g) ρ = fappS i c ns k ((fldO .sorted ((insLs ρ i c ns).bind fun ls => ls[g]?)).bind fun r => opX .tuple1 [r]) ρ := by rw [exS]
theorem v_frz (e : Ex) (ρ : Env) : evE Φ (.frz e) ρ = evE Φ e ρ := by rw [evE]
theorem l_frz' (e : Ex) (ρ : Env) : evL Φ (.frz e) ρ = (evE Φ e ρ).bind kFro := by
  show (evE Φ (.frz e) ρ).bind _ = _
  rw [v_frz]
  rfl
theorem v_ofld (i : Nat) (c : Str) (ns : List Str) (k : Nat) (ρ : Env) : evE Φ (.ofld i c ns k) ρ = ER.of (ofldP (at' ρ i) c ns k) ρ := by rw [evE]
theorem l_ofld (i : Nat) (c : Str) (ns : List Str) (k : Nat) (ρ : Env) : evL Φ (.ofld i c ns k) ρ = (evE Φ (.ofld i c ns k) ρ).bind kFro := rfl
theorem v_fix (i : Nat) (c : Str) (ns : List Str) (k : Nat) (ix : Nat ⊕ Int) (ρ : Env) : evE Φ (.fix i c ns k ix) ρ = ER.of (fixP ((insLs ρ i c ns).bind fun ls => ls[k]?) (ixOf ρ ix)) ρ := by rw [evE]
theorem l_fix (i : Nat) (c : Str) (ns : List Str) (k : Nat) (ix : Nat ⊕ Int) (ρ : Env) : evL Φ (.fix i c ns k ix) ρ = (evE Φ (.fix i c ns k ix) ρ).bind kFro := rfl
theorem fixP_s (l : List PV) (j : Int) : fixP (some (.own (.lst l))) (some j) = atI l j := rfl
theorem ixOf_l (ρ : Env) (j : Nat) : ixOf ρ (.inl j) = slotInt ρ j := rfl
theorem ixOf_r (ρ : Env) (j : Int) : ixOf ρ (.inr j) = some j := rfl
theorem ofldP_s (c d : Str) (ns ms : List Str) (ps : List PV) (k : Nat) : ofldP (some (.fro (.obj d ms ps))) c ns k = if d = c ∧ ms = ns then ps[k]? else none := rfl
def kMr (j i : Nat) (c : Str) (ns : List Str) (avs : List AV) (ρ : Env) : ER LV := callR (Φ j) i c ns avs ρ
theorem l_mcallR' (j i : Nat) (c : Str) (ns : List Str) (as : List Arg) (ρ : Env) : evL Φ (.mcallR j i c ns as) ρ = if insAt ρ i c ns = true then (evAs Φ as ρ).bind (kMr Φ j i c ns) else .st := rfl
theorem v_mcallR (j i : Nat) (c : Str) (ns : List Str) (as : List Arg) (ρ : Env) : evE Φ (.mcallR j i c ns as) ρ = froE (evL Φ (.mcallR j i c ns as) ρ) := by
  rw [l_mcallR', evE]
  by_cases h : insAt ρ i c ns = true
  · rw [if_pos h, if_pos h]
    unfold froE
    rw [ER.assoc]
    rfl
  · rw [if_neg h, if_neg h]
    rfl
def callR2 (r : CR) (ρ : Env) : ER LV := match r with
  | .ok r _ => if r.bare = true then .ok r ρ else .st
  | _ => .st
theorem callR2_ok (r : LV) (as : List LV) (ρ : Env) : callR2 (.ok r as) ρ = if r.bare = true then .ok r ρ else .st := rfl
def callR1 (g : List LV → CR) (c : Str) (ns : List Str) (o : Option (List PV)) (p : Option (List LV)) (ρ : Env) : ER LV := match o, p with
  | some ps, some ls => if ls.all LV.isFro = true then callR2 (g (.fro (.obj c ns ps) :: ls)) ρ else .st
  | _, _ => .st
theorem callR_k (g : List LV → CR) (i : Nat) (c : Str) (ns : List Str) (avs : List AV) (ρ : Env) : callR g i c ns avs ρ = callR1 g c ns ((insLs ρ i c ns).bind pvsL) (AV.lvs ρ avs) ρ := rfl
theorem callR1_s (g : List LV → CR) (c : Str) (ns : List Str) (ps : List PV) (ls : List LV) (ρ : Env) : callR1 g c ns (some ps) (some ls) ρ = if ls.all LV.isFro = true then callR2 (g (.fro (.obj c ns ps) :: ls)) ρ else .st := rfl
theorem pvsL_0 : pvsL [] = some [] := rfl
theorem pvsL_f (p : PV) (ls : List LV) : pvsL (.fro p :: ls) = (pvsL ls).map (p :: ·) := by
  show (match (some p : Option PV), pvsL ls with | some p, some ps => some (p :: ps) | _, _ => none) = _
  cases pvsL ls <;> rfl
theorem pvsL_o (p : PV) (ls : List LV) : pvsL (.own p :: ls) = (pvsL ls).map (p :: ·) := by
  show (match (some p : Option PV), pvsL ls with | some p, some ps => some (p :: ps) | _, _ => none) = _
  cases pvsL ls <;> rfl
theorem bare_f (p : PV) : LV.bare (.fro p) = p.bare := rfl
theorem bare_l (l : List PV) : LV.bare (.own (.lst l)) = l.all PV.bare := rfl
theorem bare_i (ns : List Int) : (ns.map PV.int).all PV.bare = true := by
  rw [List.all_eq_true]
  intro x hx
  obtain ⟨n, _, rfl⟩ := List.mem_map.mp hx
  rfl
theorem x_fsetIx (i : Nat) (c : Str) (ns : List Str) (k : Nat) (ix : Nat ⊕ Int) (e : Ex) (ρ : Env) : exS Φ n (.fsetIx i c ns k ix e) ρ = (evE Φ e ρ).so (fsetIxS i c ns k ix) := by rw [exS]
def kFa (i : Nat) (c : Str) (ns : List Str) (k : Nat) (e : Ex) (ρ : Env) (ls : List LV) (o : Option LV) : SO := match o with
  | some (.own (.lst l)) => (evE Φ e (ρ.set i none)).calm.so (fappES i c ns k ls l)
  | _ => .st
theorem kFa_l (i : Nat) (c : Str) (ns : List Str) (k : Nat) (e : Ex) (ρ : Env) (ls : List LV) (l : List PV) : kFa Φ i c ns k e ρ ls (some (.own (.lst l))) = (evE Φ e (ρ.set i none)).calm.so (fappES i c ns k ls l) := rfl
def kFa0 (i : Nat) (c : Str) (ns : List Str) (k : Nat) (e : Ex) (ρ : Env) (o : Option (List LV)) : SO := match o with
  | some ls => kFa Φ i c ns k e ρ ls ls[k]?
  | none => .st
theorem kFa0_s (i : Nat) (c : Str) (ns : List Str) (k : Nat) (e : Ex) (ρ : Env) (ls : List LV) : kFa0 Φ i c ns k e ρ (some ls) = kFa Φ i c ns k e ρ ls ls[k]? := rfl
theorem x_fappE (i : Nat) (c : Str) (ns : List Str) (k : Nat) (e : Ex) (ρ : Env) : exS Φ n (.fappE i c ns k e) ρ = kFa0 Φ i c ns k e ρ (insLs ρ i c ns) := by
  rw [exS]
  cases insLs ρ i c ns with
  | none => rfl
  | some ls =>
    show (match ls[k]? with | some (.own (.lst l)) => _ | _ => _) = kFa Φ i c ns k e ρ ls ls[k]?
    cases ls[k]? with
    | none => rfl
    | some l =>
      cases l with
      | own p => cases p <;> rfl
      | _ => rfl
end
end Br
set_option maxHeartbeats 0
namespace Lk14
set_option maxHeartbeats 0
open PySem PySem.Spec PyProof.Rows L2 Br
/-! what stands behind the top -/
def top (i : Nat) : Stmt := PySem.Challenge.pw_brimyard_k14_fillings_judged.main.body.getD i (.Pass ⟨0, 0, 0, 0⟩)
abbrev s__law_begun : Stmt := top 17
abbrev s__law_due : Stmt := top 28
abbrev s__law_folded : Stmt := top 16
abbrev s__law_less : Stmt := top 25
abbrev s__law_take : Stmt := top 18
abbrev s_counted_heap : Stmt := top 5
abbrev s_counts_of : Stmt := top 6
abbrev s_is_full : Stmt := top 11
abbrev s_is_whole : Stmt := top 1
abbrev s__law_full_lot : Stmt := top 26
abbrev s__law_other_lot : Stmt := top 29
abbrev s__law_wide : Stmt := top 19
abbrev s_counts_taken : Stmt := top 13
abbrev s_is_size : Stmt := top 4
abbrev s_taken_from : Stmt := top 7
abbrev s__law_filling : Stmt := top 27
abbrev s__law_many : Stmt := top 22
abbrev s__law_need : Stmt := top 20
abbrev s__law_size : Stmt := top 21
abbrev s__law_spoilt : Stmt := top 30
abbrev s_is_lot : Stmt := top 10
abbrev s__law_heap : Stmt := top 23
abbrev s__law_small_heap : Stmt := top 24
abbrev s_filling_holds : Stmt := top 14
abbrev s__law_cases : Stmt := top 31
abbrev s_law : Stmt := top 32
/-! the head -/
def fn : List He.DefD := [⟨("_law_begun", none), "_law_begun", "_law_begun", defArgs s__law_begun, defBody s__law_begun, defScope s__law_begun, [], []⟩,
  ⟨("_law_due", none), "_law_due", "_law_due", defArgs s__law_due, defBody s__law_due, defScope s__law_due, [], []⟩,
  ⟨("_law_folded", none), "_law_folded", "_law_folded", defArgs s__law_folded, defBody s__law_folded, defScope s__law_folded, [], []⟩,
  ⟨("_law_less", none), "_law_less", "_law_less", defArgs s__law_less, defBody s__law_less, defScope s__law_less, [], []⟩,
  ⟨("_law_take", none), "_law_take", "_law_take", defArgs s__law_take, defBody s__law_take, defScope s__law_take, [], []⟩,
  ⟨("counted_heap", none), "counted_heap", "counted_heap", defArgs s_counted_heap, defBody s_counted_heap, defScope s_counted_heap, [], []⟩,
  ⟨("counts_of", none), "counts_of", "counts_of", defArgs s_counts_of, defBody s_counts_of, defScope s_counts_of, [], []⟩,
  ⟨("is_full", none), "is_full", "is_full", defArgs s_is_full, defBody s_is_full, defScope s_is_full, [], []⟩,
  ⟨("is_whole", none), "is_whole", "is_whole", defArgs s_is_whole, defBody s_is_whole, defScope s_is_whole, [], []⟩,
  ⟨("_law_full_lot", none), "_law_full_lot", "_law_full_lot", defArgs s__law_full_lot, defBody s__law_full_lot, defScope s__law_full_lot, [], []⟩,
  ⟨("_law_other_lot", none), "_law_other_lot", "_law_other_lot", defArgs s__law_other_lot, defBody s__law_other_lot, defScope s__law_other_lot, [], []⟩,
  ⟨("_law_wide", none), "_law_wide", "_law_wide", defArgs s__law_wide, defBody s__law_wide, defScope s__law_wide, [], []⟩,
  ⟨("counts_taken", none), "counts_taken", "counts_taken", defArgs s_counts_taken, defBody s_counts_taken, defScope s_counts_taken, [], []⟩,
  ⟨("is_size", none), "is_size", "is_size", defArgs s_is_size, defBody s_is_size, defScope s_is_size, [], []⟩,
  ⟨("taken_from", none), "taken_from", "taken_from", defArgs s_taken_from, defBody s_taken_from, defScope s_taken_from, [], []⟩,
  ⟨("_law_filling", none), "_law_filling", "_law_filling", defArgs s__law_filling, defBody s__law_filling, defScope s__law_filling, [], []⟩,
  ⟨("_law_many", none), "_law_many", "_law_many", defArgs s__law_many, defBody s__law_many, defScope s__law_many, [], []⟩,
  ⟨("_law_need", none), "_law_need", "_law_need", defArgs s__law_need, defBody s__law_need, defScope s__law_need, [], []⟩,
  ⟨("_law_size", none), "_law_size", "_law_size", defArgs s__law_size, defBody s__law_size, defScope s__law_size, [], []⟩,
  ⟨("_law_spoilt", none), "_law_spoilt", "_law_spoilt", defArgs s__law_spoilt, defBody s__law_spoilt, defScope s__law_spoilt, [], []⟩,
  ⟨("is_lot", none), "is_lot", "is_lot", defArgs s_is_lot, defBody s_is_lot, defScope s_is_lot, [], []⟩,
  ⟨("_law_heap", none), "_law_heap", "_law_heap", defArgs s__law_heap, defBody s__law_heap, defScope s__law_heap, [], []⟩,
  ⟨("_law_small_heap", none), "_law_small_heap", "_law_small_heap", defArgs s__law_small_heap, defBody s__law_small_heap, defScope s__law_small_heap, [], []⟩,
  ⟨("filling_holds", none), "filling_holds", "filling_holds", defArgs s_filling_holds, defBody s_filling_holds, defScope s_filling_holds, [], []⟩,
  ⟨("_law_cases", none), "_law_cases", "_law_cases", defArgs s__law_cases, defBody s__law_cases, defScope s__law_cases, [], []⟩,
  ⟨("law", none), "law", "law", defArgs s_law, defBody s_law, defScope s_law, [], []⟩]
def fa : List He.Fa := ([.glo "_law_begun", .glo "_law_due", .glo "_law_folded", .glo "_law_less", .glo "_law_take", .glo "counted_heap", .glo "counts_of", .glo "is_full", .glo "is_whole", .glo "_law_full_lot", .glo "_law_other_lot", .glo "_law_wide", .glo "counts_taken", .glo "is_size", .glo "taken_from", .glo "_law_filling", .glo "_law_many", .glo "_law_need", .glo "_law_size", .glo "_law_spoilt", .glo "is_lot", .glo "_law_heap", .glo "_law_small_heap", .glo "filling_holds", .glo "_law_cases", .glo "law", .free "abs", .free "all", .free "bool", .free "dict"] : List He.Fa) ++ ([.free "enumerate", .free "int", .free "isinstance", .free "len", .free "list", .free "max", .free "min", .free "range", .free "sorted", .free "str", .free "sum", .free "tuple", .int "MOST_IN_LOT" 100, .int "MOST_SIZE" 1000000000000] : List He.Fa)
abbrev R : PySem.W.OpenRow := PySem.W.OpenLaw.row PySem.Challenge.rw_brimyard_k14_fillings_judged
abbrev hk : PySem.W.Hook := He.hookD 4 fa fn
def ob (s : PySem.W.SharedT) : He.AlD := He.obsDG 4 fa fn (HandSHeadRun.getT s)
theorem ob_eq (s : PySem.W.SharedT) : ob s = hk.obs s.abs := He.obsDG_eq (HandSHeadRun.getT_eq s)
theorem run (w : World) : HandSHeadRun.RunEq R (PySem.W.view R.prog [32]) hk ob 4360 ["is_whole", "MOST_SIZE", "is_size", "counted_heap", "counts_of", "taken_from", "MOST_IN_LOT", "is_lot", "is_full", "counts_taken", "filling_holds", "_law_folded", "_law_begun", "_law_take", "_law_wide", "_law_need", "_law_size", "_law_many", "_law_heap", "_law_small_heap", "_law_less", "_law_full_lot", "_law_filling", "_law_due", "_law_other_lot", "_law_spoilt", "_law_cases"] w := by
  intro os
  kernel_rfl
end Lk14
namespace Cm
open PySem Br
local macro_rules
| `(tactic| simp -implicitDefEqProofs [evx, $xs,*]) => `(tactic| simp -implicitDefEqProofs [ioOk, Br.frameOf, lvsOf, Br.exSs_nil, Br.exSs_cons, SO.seq_nx, SO.seq_rt, SO.seq_ex, SO.seq_bk, SO.seq_ct, SO.seq_st, SO.fin_nx, SO.fin_rt, SO.fin_ex, Br.v_app, Br.v_mth, Br.v_tup, Br.v_lst, Br.v_cst, Br.v_dnew, Br.v_var, Br.v_call, Br.v_and, Br.v_or, Br.v_not, Br.v_ite, Br.v_chain, Br.v_chain3, Br.kCh33, Br.kCh32b, Br.kCh32, Br.kCh31, Br.v_sl2, Br.v_comp, Br.v_compK, Br.v_compO, Br.kCO_l, Br.putO_ok, Br.kCK_d, Br.kCK_t, Br.lockE_ok, Br.v_aref, Br.v_aval, Br.v_as0, Br.v_as, Br.v_es0, Br.v_es, Br.v_tand, Br.v_tor, Br.v_tnot, Br.v_te, Br.v_ts0, Br.v_ts1, Br.v_seq, Br.v_seqS, Br.kSeqS, Br.v_rng1, Br.v_rng2, Br.v_enum, Br.v_zip, Br.v_popE, Br.v_dispV, Br.l_dispV', Br.v_popD, Br.l_popD, Br.kPopD_eq, Br.v_disp1, Br.l_disp1', Br.kD1_eq, Br.kD2_i, Br.calm_ok, Br.v_popL, Br.l_popE, Br.l_popL, Br.kPopE_eq, Br.putE_some, Br.putE_none, Br.v_rev, Br.l_app, Br.l_mth', Br.l_lst', Br.l_dnew', Br.l_call', Br.l_comp', Br.l_compK', Br.l_compO', Br.l_mvv', Br.kMv_o, Br.kMv_f, Br.l_var, Br.l_cst, Br.l_tup, Br.l_and, Br.l_or, Br.l_not, Br.l_ite, Br.l_chain, Br.l_chain3, Br.l_sl2, Br.x_set, Br.x_unp, Br.x_par, Br.x_setIx, Br.x_app, Br.x_ext, Br.x_popA, Br.x_insA, Br.kPopA, Br.kIns1, Br.kIns2, Br.x_ex, Br.x_ret, Br.x_retV, Br.x_retN, Br.x_if, Br.x_whl, Br.x_brk, Br.x_cont, Br.x_pass, Br.x_raise, Br.kOp, Br.kVal, Br.kCons, Br.kAs, Br.kConsE, Br.kEs, Br.kTup, Br.kLst, Br.kCall, Br.kMth2, Br.kMth, Br.kAnd, Br.kOr, Br.kNot, Br.kIte, Br.kCh4, Br.kCh3, Br.kCh2b, Br.kCh2, Br.kCh1, Br.kS3, Br.kS2, Br.kS1, Br.kC6, Br.kC5, Br.kC4, Br.kC3, Br.kC0, Br.kC2, Br.kC1, Br.kTand, Br.kTor, Br.kTnot, Br.kTe, Br.kSeq, Br.kR1, Br.kR3, Br.kR2, Br.kEn, Br.kZ2, Br.kZ1, Br.kRv, Br.kOwn, Br.kFro, Br.kOwnV, Br.kCallL, Br.kSet, Br.kUnp, Br.kPar, Br.kSI2, Br.kSI1, Br.kApp, Br.kExt, Br.kEx, Br.kRet, Br.kIf, Br.kFor, Br.ifE_t, Br.ifE_f, Br.ifS_t, Br.ifS_f, Br.okE_eq, Br.cF, Br.x_for, ne_eq, reduceCtorEq, not_false_eq_true, implies_true, ER.bind_ok, ER.bind_ex, ER.bind_st, ER.so_ok, ER.so_ex, ER.so_st, ER.of_some, ER.of_none, SO.of_some, SO.of_none, Br.bindS_k, Br.bindK_some, Br.bindK_none, Tg.bind, Tg.binds, slotInt, at', setIxP, AV.pvs, AV.pv, AV.lvs, AV.lv, AV.refs, AV.back, maskL, LV.isFro, LV.pv, Br.callE_k, Br.callK0_some, Br.callK_ok, Br.callK_ex, froE, Br.opX_add, Br.opX_sub, Br.opX_mul, Br.opX_fdiv, Br.opX_mod, Br.opX_pow, Br.opX_neg, Br.opX_eq, Br.opX_ne, Br.opX_lt, Br.opX_le, Br.opX_gt, Br.opX_ge, Br.opX_isN, Br.opX_isNN, Br.opX_inn, Br.opX_nin, Br.opX_len, Br.opX_sum, Br.opX_abs, Br.opX_int1, Br.opX_str1, Br.opX_tuple1, Br.opX_list1, Br.opX_sorted, Br.opX_allL, Br.opX_anyL, Br.opX_min2, Br.opX_max2, Br.opX_minL, Br.opX_maxL, Br.opX_idx, Br.opX_rev, Br.opX_dget, Br.opX_values, Br.opX_dmod, Br.opX_lcnt, Br.opX_tcnt, Br.opX_lidx, Br.opX_bits, Br.opX_sortedD, Br.opX_minD, Br.opX_maxD, Br.opX_isB, Br.opX_isNB, Br.opX_isTy, Br.opX_slc, Br.opX_lsetX, Br.opX_slcX, slcXP, Br.opX_isEx, Br.opX_dict1, Br.opX_dictT, Br.opX_tupleX, Br.dn_non, Br.dn_bl, Br.dn_int, Br.dn_str, Br.dn_ty, Br.dn_exc, Br.dn_tup, Br.dn_xt, Br.dn_lst, Br.dn_dK, Br.dn_dT, Br.dn_dX, Br.dn_dn, Br.isD_dn, Br.eqP_dnl, Br.eqP_dnr, tupleXP, opSem, addP, subP, mulP, fdivP, modP, powP, negP, eqOP, neOP, ltOP, leOP, gtOP, geOP, isNP, isNNP, isBP, isNBP, PV.isNon, lenP, sumP, absP, int1P, str1P, tuple1P, list1P, min2P, max2P, idxP, slcP, slcPart, dmodP, isTyOP, isTys, isTyP, tyName, ownV, Op.new, wipeE, Br.backE_nil, Br.backE_cons, Br.froO_f, Br.froO_n, Br.froO_0, Br.froO_o, seqOf, parE, ownL, ownD, keyP, recvOk, PV.isD, PV.isT, Br.eqP_ii, Br.eqP_ss, Br.eqP_bb, Br.eqP_nn, Br.eqP_tt, Br.eqP_ll, Br.eqPs_00, Br.eqPs_0c, Br.eqPs_c0, Br.eqPs_cc, Br.eqPs_ints, Br.eqP_xl, Br.eqP_xr, Br.eqP_ni, Br.eqP_ns, Br.eqP_nt, Br.eqP_nl, Br.eqP_nb, Br.eqP_in, Br.eqP_is, Br.eqP_it, Br.eqP_il, Br.eqP_sn, Br.eqP_si, Br.eqP_st, Br.eqP_sl, Br.eqP_sb, Br.eqP_tn, Br.eqP_ti, Br.eqP_ts, Br.eqP_tl, Br.eqP_tb, Br.eqP_ln, Br.eqP_li, Br.eqP_ls, Br.eqP_lt, Br.eqP_lb, Br.eqP_bn, Br.eqP_bs, Br.eqP_bt, Br.eqP_bl, intsOf, List.getElem?_cons_zero, List.getElem?_cons_succ, List.getElem?_nil, List.set_cons_zero, List.set_cons_succ, List.map_cons, List.map_nil, List.cons_append, List.nil_append, List.length_cons, List.length_nil, List.replicate_succ, List.replicate_zero, List.append_nil, Option.bind_some, Option.bind_none, Option.map_some, Option.map_none, if_true, if_false, ite_true, ite_false, decide_true, decide_false, Bool.and_true, Bool.true_and, Bool.not_true, Bool.not_false, reduceIte, Option.isSome_some, Br.kit_NoneType_int, Br.kit_NoneType_bool, Br.kit_NoneType_str, Br.kit_NoneType_tuple, Br.kit_NoneType_list, Br.kit_NoneType_dict, Br.kit_bool_int, Br.kit_bool_bool, Br.kit_bool_str, Br.kit_bool_tuple, Br.kit_bool_list, Br.kit_bool_dict, Br.kit_int_int, Br.kit_int_bool, Br.kit_int_str, Br.kit_int_tuple, Br.kit_int_list, Br.kit_int_dict, Br.kit_str_int, Br.kit_str_bool, Br.kit_str_str, Br.kit_str_tuple, Br.kit_str_list, Br.kit_str_dict, Br.kit_tuple_int, Br.kit_tuple_bool, Br.kit_tuple_str, Br.kit_tuple_tuple, Br.kit_tuple_list, Br.kit_tuple_dict, Br.kit_list_int, Br.kit_list_bool, Br.kit_list_str, Br.kit_list_tuple, Br.kit_list_list, Br.kit_list_dict, Br.kit_dict_int, Br.kit_dict_bool, Br.kit_dict_str, Br.kit_dict_tuple, Br.kit_dict_list, Br.kit_dict_dict, L2.ixN, Br.rng_ok, Br.mul_ok_r, Br.mul_ok_l, LIM, Br.PV.i_int, Br.log2_lt_9000, Br.atI_0, Br.atI_1, Br.atI_2, lcntP, lidxP, bitsP, revP, cntP, sortedDP, minDP, maxDP, sortX, Br.x_try, Br.tryK_nx, Br.tryK_rt, Br.tryK_bk, Br.tryK_ct, Br.suiteX_nx, Br.suiteX_bk, Br.suiteX_ct, Br.suiteX_rt, Br.setX_some, Br.setX_none, Br.goneX_some, Br.goneX_none, Br.x_lock, Br.kLock_d, Br.lockR_nx, Br.lockR_rt, Br.l_callN', Br.v_callN, Br.kN1, Br.kN2_eq, Br.newL_t, Br.newL_f, Br.l_callT', Br.v_callT, Br.kT1, Br.kT2, Br.kT3, Br.kT4_eq, Br.dropT_ok, Br.dropT_ex, Br.dropT_st, Br.sh_val, Br.sh_ref, Br.kXt, Br.v_xtup, Br.l_xtup, Br.lockV_s, Br.thin_0, Br.thin_c, Br.thinO_n, Br.thinO_s, Br.thinL_f, Br.thinL_l, Br.thinL_d, Br.thinL_t, Br.noD_n, Br.noD_b, Br.noD_i, Br.noD_s, Br.noD_e, Br.noD_t, Br.noD_x, Br.noD_l, Br.noD_d, Br.noDs_0, Br.noDs_c, Br.noDs_i, Br.v_dnewT, Br.v_dnewX, Br.l_dnewT', Br.l_dnewX', Br.opX_idxT, Br.opX_dgetT, Br.opX_innT, Br.opX_ninT, Br.opX_sortT, idxTP, dgetTP, innTP, ninTP, sortTP, Br.opX_strD, Br.opX_max2D, Br.opX_valsL, Br.opX_valsS, Br.opX_minV, Br.opX_minT, Br.opX_sset, Br.opX_ssetT, Br.opX_lset, Br.opX_join, Br.opX_split, Br.opX_strip2, Br.opX_intS, Br.opX_idxS, Br.opX_inS, Br.opX_addX, addXP, minVP, minTP, valsLP, valsSP, tcntP, tupleXP, Br.l_mcall', Br.v_mcall, Br.kMc, Br.l_make', Br.kMk, Br.madeT_ok, Br.madeT_st, Br.v_fld, Br.fldE_some, Br.l_fld, Br.v_fop, Br.fldO_fro, Br.fldO_own, Br.l_fop', Br.x_fset, Br.x_fnew, Br.x_fappV, Br.x_fappT, fsetS, fnewS, fappS, Br.froAt, insLs, insAt, Br.l_sel', Br.v_sel, Br.kSel_0, Br.kSel_1, Br.v_frz, Br.l_frz', Br.v_ofld, Br.l_ofld, Br.v_fix, Br.l_fix, Br.fixP_s, Br.ixOf_l, Br.ixOf_r, Br.ofldP_s, Br.l_mcallR', Br.v_mcallR, Br.kMr, Br.callR_k, Br.callR1_s, Br.callR2_ok, Br.pvsL_0, Br.pvsL_f, Br.pvsL_o, Br.bare_f, Br.bare_l, Br.bare_i, PV.bare, Br.x_fsetIx, fsetIxS, Br.x_fappE, Br.kFa0_s, Br.kFa_l, fappES, Br.dn_gt, Br.dn_obj, and_self, Br.opX_max3, Br.opX_min3, max3P, min3P, $xs,*])
| `(tactic| simp -implicitDefEqProofs [evx]) => `(tactic| simp -implicitDefEqProofs [ioOk, Br.frameOf, lvsOf, Br.exSs_nil, Br.exSs_cons, SO.seq_nx, SO.seq_rt, SO.seq_ex, SO.seq_bk, SO.seq_ct, SO.seq_st, SO.fin_nx, SO.fin_rt, SO.fin_ex, Br.v_app, Br.v_mth, Br.v_tup, Br.v_lst, Br.v_cst, Br.v_dnew, Br.v_var, Br.v_call, Br.v_and, Br.v_or, Br.v_not, Br.v_ite, Br.v_chain, Br.v_chain3, Br.kCh33, Br.kCh32b, Br.kCh32, Br.kCh31, Br.v_sl2, Br.v_comp, Br.v_compK, Br.v_compO, Br.kCO_l, Br.putO_ok, Br.kCK_d, Br.kCK_t, Br.lockE_ok, Br.v_aref, Br.v_aval, Br.v_as0, Br.v_as, Br.v_es0, Br.v_es, Br.v_tand, Br.v_tor, Br.v_tnot, Br.v_te, Br.v_ts0, Br.v_ts1, Br.v_seq, Br.v_seqS, Br.kSeqS, Br.v_rng1, Br.v_rng2, Br.v_enum, Br.v_zip, Br.v_popE, Br.v_dispV, Br.l_dispV', Br.v_popD, Br.l_popD, Br.kPopD_eq, Br.v_disp1, Br.l_disp1', Br.kD1_eq, Br.kD2_i, Br.calm_ok, Br.v_popL, Br.l_popE, Br.l_popL, Br.kPopE_eq, Br.putE_some, Br.putE_none, Br.v_rev, Br.l_app, Br.l_mth', Br.l_lst', Br.l_dnew', Br.l_call', Br.l_comp', Br.l_compK', Br.l_compO', Br.l_mvv', Br.kMv_o, Br.kMv_f, Br.l_var, Br.l_cst, Br.l_tup, Br.l_and, Br.l_or, Br.l_not, Br.l_ite, Br.l_chain, Br.l_chain3, Br.l_sl2, Br.x_set, Br.x_unp, Br.x_par, Br.x_setIx, Br.x_app, Br.x_ext, Br.x_popA, Br.x_insA, Br.kPopA, Br.kIns1, Br.kIns2, Br.x_ex, Br.x_ret, Br.x_retV, Br.x_retN, Br.x_if, Br.x_whl, Br.x_brk, Br.x_cont, Br.x_pass, Br.x_raise, Br.kOp, Br.kVal, Br.kCons, Br.kAs, Br.kConsE, Br.kEs, Br.kTup, Br.kLst, Br.kCall, Br.kMth2, Br.kMth, Br.kAnd, Br.kOr, Br.kNot, Br.kIte, Br.kCh4, Br.kCh3, Br.kCh2b, Br.kCh2, Br.kCh1, Br.kS3, Br.kS2, Br.kS1, Br.kC6, Br.kC5, Br.kC4, Br.kC3, Br.kC0, Br.kC2, Br.kC1, Br.kTand, Br.kTor, Br.kTnot, Br.kTe, Br.kSeq, Br.kR1, Br.kR3, Br.kR2, Br.kEn, Br.kZ2, Br.kZ1, Br.kRv, Br.kOwn, Br.kFro, Br.kOwnV, Br.kCallL, Br.kSet, Br.kUnp, Br.kPar, Br.kSI2, Br.kSI1, Br.kApp, Br.kExt, Br.kEx, Br.kRet, Br.kIf, Br.kFor, Br.ifE_t, Br.ifE_f, Br.ifS_t, Br.ifS_f, Br.okE_eq, Br.cF, Br.x_for, ne_eq, reduceCtorEq, not_false_eq_true, implies_true, ER.bind_ok, ER.bind_ex, ER.bind_st, ER.so_ok, ER.so_ex, ER.so_st, ER.of_some, ER.of_none, SO.of_some, SO.of_none, Br.bindS_k, Br.bindK_some, Br.bindK_none, Tg.bind, Tg.binds, slotInt, at', setIxP, AV.pvs, AV.pv, AV.lvs, AV.lv, AV.refs, AV.back, maskL, LV.isFro, LV.pv, Br.callE_k, Br.callK0_some, Br.callK_ok, Br.callK_ex, froE, Br.opX_add, Br.opX_sub, Br.opX_mul, Br.opX_fdiv, Br.opX_mod, Br.opX_pow, Br.opX_neg, Br.opX_eq, Br.opX_ne, Br.opX_lt, Br.opX_le, Br.opX_gt, Br.opX_ge, Br.opX_isN, Br.opX_isNN, Br.opX_inn, Br.opX_nin, Br.opX_len, Br.opX_sum, Br.opX_abs, Br.opX_int1, Br.opX_str1, Br.opX_tuple1, Br.opX_list1, Br.opX_sorted, Br.opX_allL, Br.opX_anyL, Br.opX_min2, Br.opX_max2, Br.opX_minL, Br.opX_maxL, Br.opX_idx, Br.opX_rev, Br.opX_dget, Br.opX_values, Br.opX_dmod, Br.opX_lcnt, Br.opX_tcnt, Br.opX_lidx, Br.opX_bits, Br.opX_sortedD, Br.opX_minD, Br.opX_maxD, Br.opX_isB, Br.opX_isNB, Br.opX_isTy, Br.opX_slc, Br.opX_lsetX, Br.opX_slcX, slcXP, Br.opX_isEx, Br.opX_dict1, Br.opX_dictT, Br.opX_tupleX, Br.dn_non, Br.dn_bl, Br.dn_int, Br.dn_str, Br.dn_ty, Br.dn_exc, Br.dn_tup, Br.dn_xt, Br.dn_lst, Br.dn_dK, Br.dn_dT, Br.dn_dX, Br.dn_dn, Br.isD_dn, Br.eqP_dnl, Br.eqP_dnr, tupleXP, opSem, addP, subP, mulP, fdivP, modP, powP, negP, eqOP, neOP, ltOP, leOP, gtOP, geOP, isNP, isNNP, isBP, isNBP, PV.isNon, lenP, sumP, absP, int1P, str1P, tuple1P, list1P, min2P, max2P, idxP, slcP, slcPart, dmodP, isTyOP, isTys, isTyP, tyName, ownV, Op.new, wipeE, Br.backE_nil, Br.backE_cons, Br.froO_f, Br.froO_n, Br.froO_0, Br.froO_o, seqOf, parE, ownL, ownD, keyP, recvOk, PV.isD, PV.isT, Br.eqP_ii, Br.eqP_ss, Br.eqP_bb, Br.eqP_nn, Br.eqP_tt, Br.eqP_ll, Br.eqPs_00, Br.eqPs_0c, Br.eqPs_c0, Br.eqPs_cc, Br.eqPs_ints, Br.eqP_xl, Br.eqP_xr, Br.eqP_ni, Br.eqP_ns, Br.eqP_nt, Br.eqP_nl, Br.eqP_nb, Br.eqP_in, Br.eqP_is, Br.eqP_it, Br.eqP_il, Br.eqP_sn, Br.eqP_si, Br.eqP_st, Br.eqP_sl, Br.eqP_sb, Br.eqP_tn, Br.eqP_ti, Br.eqP_ts, Br.eqP_tl, Br.eqP_tb, Br.eqP_ln, Br.eqP_li, Br.eqP_ls, Br.eqP_lt, Br.eqP_lb, Br.eqP_bn, Br.eqP_bs, Br.eqP_bt, Br.eqP_bl, intsOf, List.getElem?_cons_zero, List.getElem?_cons_succ, List.getElem?_nil, List.set_cons_zero, List.set_cons_succ, List.map_cons, List.map_nil, List.cons_append, List.nil_append, List.length_cons, List.length_nil, List.replicate_succ, List.replicate_zero, List.append_nil, Option.bind_some, Option.bind_none, Option.map_some, Option.map_none, if_true, if_false, ite_true, ite_false, decide_true, decide_false, Bool.and_true, Bool.true_and, Bool.not_true, Bool.not_false, reduceIte, Option.isSome_some, Br.kit_NoneType_int, Br.kit_NoneType_bool, Br.kit_NoneType_str, Br.kit_NoneType_tuple, Br.kit_NoneType_list, Br.kit_NoneType_dict, Br.kit_bool_int, Br.kit_bool_bool, Br.kit_bool_str, Br.kit_bool_tuple, Br.kit_bool_list, Br.kit_bool_dict, Br.kit_int_int, Br.kit_int_bool, Br.kit_int_str, Br.kit_int_tuple, Br.kit_int_list, Br.kit_int_dict, Br.kit_str_int, Br.kit_str_bool, Br.kit_str_str, Br.kit_str_tuple, Br.kit_str_list, Br.kit_str_dict, Br.kit_tuple_int, Br.kit_tuple_bool, Br.kit_tuple_str, Br.kit_tuple_tuple, Br.kit_tuple_list, Br.kit_tuple_dict, Br.kit_list_int, Br.kit_list_bool, Br.kit_list_str, Br.kit_list_tuple, Br.kit_list_list, Br.kit_list_dict, Br.kit_dict_int, Br.kit_dict_bool, Br.kit_dict_str, Br.kit_dict_tuple, Br.kit_dict_list, Br.kit_dict_dict, L2.ixN, Br.rng_ok, Br.mul_ok_r, Br.mul_ok_l, LIM, Br.PV.i_int, Br.log2_lt_9000, Br.atI_0, Br.atI_1, Br.atI_2, lcntP, lidxP, bitsP, revP, cntP, sortedDP, minDP, maxDP, sortX, Br.x_try, Br.tryK_nx, Br.tryK_rt, Br.tryK_bk, Br.tryK_ct, Br.suiteX_nx, Br.suiteX_bk, Br.suiteX_ct, Br.suiteX_rt, Br.setX_some, Br.setX_none, Br.goneX_some, Br.goneX_none, Br.x_lock, Br.kLock_d, Br.lockR_nx, Br.lockR_rt, Br.l_callN', Br.v_callN, Br.kN1, Br.kN2_eq, Br.newL_t, Br.newL_f, Br.l_callT', Br.v_callT, Br.kT1, Br.kT2, Br.kT3, Br.kT4_eq, Br.dropT_ok, Br.dropT_ex, Br.dropT_st, Br.sh_val, Br.sh_ref, Br.kXt, Br.v_xtup, Br.l_xtup, Br.lockV_s, Br.thin_0, Br.thin_c, Br.thinO_n, Br.thinO_s, Br.thinL_f, Br.thinL_l, Br.thinL_d, Br.thinL_t, Br.noD_n, Br.noD_b, Br.noD_i, Br.noD_s, Br.noD_e, Br.noD_t, Br.noD_x, Br.noD_l, Br.noD_d, Br.noDs_0, Br.noDs_c, Br.noDs_i, Br.v_dnewT, Br.v_dnewX, Br.l_dnewT', Br.l_dnewX', Br.opX_idxT, Br.opX_dgetT, Br.opX_innT, Br.opX_ninT, Br.opX_sortT, idxTP, dgetTP, innTP, ninTP, sortTP, Br.opX_strD, Br.opX_max2D, Br.opX_valsL, Br.opX_valsS, Br.opX_minV, Br.opX_minT, Br.opX_sset, Br.opX_ssetT, Br.opX_lset, Br.opX_join, Br.opX_split, Br.opX_strip2, Br.opX_intS, Br.opX_idxS, Br.opX_inS, Br.opX_addX, addXP, minVP, minTP, valsLP, valsSP, tcntP, tupleXP, Br.l_mcall', Br.v_mcall, Br.kMc, Br.l_make', Br.kMk, Br.madeT_ok, Br.madeT_st, Br.v_fld, Br.fldE_some, Br.l_fld, Br.v_fop, Br.fldO_fro, Br.fldO_own, Br.l_fop', Br.x_fset, Br.x_fnew, Br.x_fappV, Br.x_fappT, fsetS, fnewS, fappS, Br.froAt, insLs, insAt, Br.l_sel', Br.v_sel, Br.kSel_0, Br.kSel_1, Br.v_frz, Br.l_frz', Br.v_ofld, Br.l_ofld, Br.v_fix, Br.l_fix, Br.fixP_s, Br.ixOf_l, Br.ixOf_r, Br.ofldP_s, Br.l_mcallR', Br.v_mcallR, Br.kMr, Br.callR_k, Br.callR1_s, Br.callR2_ok, Br.pvsL_0, Br.pvsL_f, Br.pvsL_o, Br.bare_f, Br.bare_l, Br.bare_i, PV.bare, Br.x_fsetIx, fsetIxS, Br.x_fappE, Br.kFa0_s, Br.kFa_l, fappES, Br.dn_gt, Br.dn_obj, and_self, Br.opX_max3, Br.opX_min3, max3P, min3P])
theorem atI_int {l : List Int} {x : Int} (h0 : 0 ≤ x) (h1 : x < l.length) : ∃ z ∈ l, L2.atI (l.map PV.int) x = some (.int z) := by
  obtain ⟨v, hv, e⟩ := atI_in (l := l.map PV.int) h0 (by simpa using h1)
  obtain ⟨z, hz, rfl⟩ := List.mem_map.mp hv
  exact ⟨z, hz, e⟩
theorem atI_5 {P : Int → Prop} {a b c d e x : Int} (h0 : 0 ≤ x) (h1 : x < 5) (ha : P a) (hb : P b) (hc : P c) (hd : P d) (he : P e) : ∃ z, P z ∧ L2.atI [PV.int a, PV.int b, PV.int c, PV.int d, PV.int e] x = some (.int z) := by
  obtain ⟨z, hz, e⟩ := atI_int (l := [a, b, c, d, e]) h0 (by simpa using h1)
  refine ⟨z, ?_, e⟩
  simp only [List.mem_cons, List.not_mem_nil, or_false] at hz
  rcases hz with rfl | rfl | rfl | rfl | rfl <;> assumption
theorem atI_4 {P : Int → Prop} {a b c d x : Int} (h0 : 0 ≤ x) (h1 : x < 4) (ha : P a) (hb : P b) (hc : P c) (hd : P d) : ∃ z, P z ∧ L2.atI [PV.int a, PV.int b, PV.int c, PV.int d] x = some (.int z) := by
  obtain ⟨z, hz, e⟩ := atI_int (l := [a, b, c, d]) h0 (by simpa using h1)
  refine ⟨z, ?_, e⟩
  simp only [List.mem_cons, List.not_mem_nil, or_false] at hz
  rcases hz with rfl | rfl | rfl | rfl <;> assumption
/-- cut to 1 .. 10 ** 12 -/
def clip (z : Int) : Int := if (if 1 < z then z else 1) < 1000000000000 then (if 1 < z then z else 1) else 1000000000000
theorem clip_1 (z : Int) : 1 ≤ clip z := by unfold clip; split <;> (try split) <;> omega
theorem clip_2 (z : Int) : clip z ≤ 1000000000000 := by unfold clip; split <;> (try split) <;> omega
set_option maxHeartbeats 0
-- use: U_idx
/-- a pot: what is left of the cell, a counter, the seed -/
abbrev pt (a b c : Int) : LV := .own (.lst [.int a, .int b, .int c])
set_option maxHeartbeats 0
def ir_law_begun_984b : Fn := ⟨2, 1, [0], [.set 1 (.cst (.int 0)), .ite (.e (.app .ge [.val (.app .abs [.ref 0]), .val (.app .pow [.val (.cst (.int 10)), .val (.cst (.int 18))])])) [.set 1 (.app .add [.val (.app .sub [.val (.app .abs [.ref 0]), .val (.app .pow [.val (.cst (.int 10)), .val (.cst (.int 18))])]), .val (.cst (.int 1))])] [], .ret (.lst [.var 1, .cst (.int 0), .app .mod [.ref 0, .val (.cst (.int 2147483647))]])]⟩
def ph_law_begun_984b : Nat → List LV → CR := fun j => match j with | _ => fun _ => .st
def g_law_begun_984b : List LV → CR := runFn ph_law_begun_984b 1000000 ir_law_begun_984b
-- use: U_pot
theorem begun_984b (n : Int) : ∃ a c : Int, 0 ≤ a ∧ g_law_begun_984b [.fro (.int n)] = .ok (pt a 0 c) [.fro (.int n)] := by
  (unfold g_law_begun_984b ir_law_begun_984b; rw [runFn_eq _ _ _ _ ⟨rfl, by decide, rfl⟩])
  by_cases h : 1000000000000000000 ≤ (if n < 0 then -n else n)
  · exact ⟨(if n < 0 then -n else n) - 1000000000000000000 + 1, n % 2147483647, by omega, by simp -implicitDefEqProofs [evx, h]⟩
  · exact ⟨0, n % 2147483647, by omega, by simp -implicitDefEqProofs [evx, h]⟩
set_option maxHeartbeats 0
-- use: BrD4
/-! dicts from ints to ints -/
abbrev dk (kv : List (Int × Int)) : PV := .dK (kv.map fun q => (Sum.inl q.1 : Int ⊕ PySem.Str)) (kv.map fun q => .int q.2)
def putL (k v : Int) : List (Int × Int) → List (Int × Int)
  | [] => [(k, v)]
  | q :: l => if k = q.1 then (q.1, v) :: l else q :: putL k v l
def lookL (k : Int) : List (Int × Int) → Option Int
  | [] => none
  | q :: l => if k = q.1 then some q.2 else lookL k l
theorem putL_ks (k v : Int) : ∀ l : List (Int × Int), putKs (Sum.inl k : Int ⊕ PySem.Str) (l.map fun q => (Sum.inl q.1 : Int ⊕ PySem.Str)) = (putL k v l).map fun q => (Sum.inl q.1 : Int ⊕ PySem.Str)
  | [] => rfl
  | q :: l => by
    unfold putL
    rw [List.map_cons]
    unfold putKs
    by_cases h : k = q.1
    · rw [if_pos h, if_pos (by rw [h])]; rfl
    · rw [if_neg h, if_neg (by intro z; exact h (Sum.inl.inj z)), putL_ks k v l]; rfl
theorem putL_vs (k v : Int) : ∀ l : List (Int × Int), putVs (Sum.inl k : Int ⊕ PySem.Str) (.int v) (l.map fun q => (Sum.inl q.1 : Int ⊕ PySem.Str)) (l.map fun q => .int q.2) = (putL k v l).map fun q => .int q.2
  | [] => rfl
  | q :: l => by
    unfold putL
    rw [List.map_cons, List.map_cons]
    unfold putVs
    by_cases h : k = q.1
    · rw [if_pos h, if_pos (by rw [h])]; rfl
    · rw [if_neg h, if_neg (by intro z; exact h (Sum.inl.inj z)), putL_vs k v l]; rfl
theorem lookL_eq (k : Int) : ∀ l : List (Int × Int), findK (Sum.inl k : Int ⊕ PySem.Str) (l.map fun q => (Sum.inl q.1 : Int ⊕ PySem.Str)) (l.map fun q => .int q.2) = (lookL k l).map PV.int
  | [] => rfl
  | q :: l => by
    unfold lookL
    rw [List.map_cons, List.map_cons]
    unfold findK
    by_cases h : k = q.1
    · rw [if_pos h, if_pos (by rw [h])]; rfl
    · rw [if_neg h, if_neg (by intro z; exact h (Sum.inl.inj z)), lookL_eq k l]
theorem lookL_some {k : Int} : ∀ {l : List (Int × Int)}, k ∈ l.map (·.1) → ∃ v, lookL k l = some v
  | [], h => by simp at h
  | q :: l, h => by
    unfold lookL
    by_cases e : k = q.1
    · exact ⟨q.2, by rw [if_pos e]⟩
    · rw [if_neg e]
      rw [List.map_cons, List.mem_cons] at h
      exact lookL_some (h.resolve_left e)
theorem putL_mem {k v : Int} {q : Int × Int} : ∀ {l : List (Int × Int)}, q ∈ putL k v l → (q = (k, v)) ∨ q ∈ l
  | [], h => by simp [putL] at h; exact .inl h
  | p :: l, h => by
    unfold putL at h
    split at h
    · rename_i e
      rcases List.mem_cons.mp h with h | h
      · exact .inl (by rw [h, e])
      · exact .inr (List.mem_cons_of_mem _ h)
    · rcases List.mem_cons.mp h with h | h
      · exact .inr (by simp [h])
      · rcases putL_mem h with h | h
        · exact .inl h
        · exact .inr (List.mem_cons_of_mem _ h)
theorem putL_len (k v : Int) : ∀ l : List (Int × Int), (putL k v l).length ≤ l.length + 1
  | [] => by simp [putL]
  | q :: l => by
    unfold putL
    split
    · simp
    · simp [putL_len k v l]
theorem putL_keys (k v : Int) (c : Int) : ∀ l : List (Int × Int), c ∈ (putL k v l).map (·.1) ↔ c = k ∨ c ∈ l.map (·.1)
  | [] => by simp [putL]
  | q :: l => by
    unfold putL
    split
    · rename_i e
      simp only [List.map_cons, List.mem_cons]
      constructor
      · exact .inr
      · rintro (h | h)
        · exact .inl (by rw [h, e])
        · exact h
    · simp only [List.map_cons, List.mem_cons, putL_keys k v c l]
      constructor
      · rintro (h | h | h)
        · exact .inr (.inl h)
        · exact .inl h
        · exact .inr (.inr h)
      · rintro (h | h | h)
        · exact .inr (.inl h)
        · exact .inl h
        · exact .inr (.inr h)
theorem putL_nd {k v : Int} : ∀ {l : List (Int × Int)}, (l.map (·.1)).Nodup → ((putL k v l).map (·.1)).Nodup
  | [], _ => by simp [putL]
  | q :: l, h => by
    have h' := List.nodup_cons.mp h
    unfold putL
    split
    · exact h
    · rename_i e
      rw [List.map_cons, List.nodup_cons]
      refine ⟨fun z => ?_, putL_nd h'.2⟩
      rcases (putL_keys k v q.1 l).mp z with z | z
      · exact e z.symm
      · exact h'.1 z
theorem intKeys_map (l : List (Int × Int)) : intKeys (l.map fun q => (Sum.inl q.1 : Int ⊕ PySem.Str)) = some (l.map (·.1)) := by
  induction l with
  | nil => rfl
  | cons q l ih =>
    show (intKeys (l.map fun q => (Sum.inl q.1 : Int ⊕ PySem.Str))).map (q.1 :: ·) = _
    rw [ih]
    rfl
theorem sortI_lt {l : List Int} (h : l.Nodup) : (sortI l).Pairwise (· < ·) := by
  have h1 := sortI_sorted l
  have h2 : (sortI l).Nodup := (sortI_perm l).nodup_iff.mpr h
  have h3 : (sortI l).Pairwise fun a b => a ≤ b ∧ a ≠ b := List.Pairwise.and h1 h2
  exact h3.imp fun ⟨a, b⟩ => by omega
set_option maxHeartbeats 0
/-- a pool of two numbers -/
abbrev pl (a b : Int) : LV := .own (.lst [.int a, .int b])
/-- a heap as data: the need, the kinds -/
abbrev hp (n : Int) (ks : List (Int × Int)) : PV := .tup [.int n, .xt (ks.map fun q => .tup [.int q.1, .int q.2])]
set_option maxHeartbeats 0
-- use: U_dict U_pool
/-! counts: how many of each size -/
def tally (c : List (Int × Int)) (k : Int) : Int := (lookL k c).getD 0
def keysL (c : List (Int × Int)) : List Int := c.map (·.1)
theorem tally_nil (k : Int) : tally [] k = 0 := rfl
theorem tally_cons (q : Int × Int) (c : List (Int × Int)) (k : Int) : tally (q :: c) k = if k = q.1 then q.2 else tally c k := by
  unfold tally
  rw [lookL]
  split <;> rfl
theorem tally_put (c : List (Int × Int)) (k v j : Int) : tally (putL k v c) j = if j = k then v else tally c j := by
  induction c with
  | nil => rw [putL, tally_cons]
  | cons q c ih =>
    rw [putL]
    split
    · rename_i e
      subst e
      rw [tally_cons, tally_cons]
      dsimp only
      split <;> rfl
    · rename_i e
      rw [tally_cons, tally_cons, ih]
      by_cases h : j = q.1
      · have h2 : j ≠ k := fun z => e (by omega)
        rw [if_pos h, if_pos h, if_neg h2]
      · rw [if_neg h, if_neg h]
theorem tally_none {c : List (Int × Int)} {k : Int} (h : k ∉ keysL c) : tally c k = 0 := by
  induction c with
  | nil => rfl
  | cons q c ih =>
    unfold keysL at h ih
    rw [List.map_cons, List.mem_cons] at h
    rw [tally_cons, if_neg (fun z => h (.inl z)), ih fun z => h (.inr z)]
theorem tally_mem {c : List (Int × Int)} (nd : (keysL c).Nodup) {q : Int × Int} (h : q ∈ c) : tally c q.1 = q.2 := by
  induction c with
  | nil => cases h
  | cons p c ih =>
    unfold keysL at nd ih
    rw [List.map_cons, List.nodup_cons] at nd
    rw [tally_cons]
    rcases List.mem_cons.mp h with rfl | h
    · rw [if_pos rfl]
    · rw [if_neg, ih nd.2 h]
      intro z
      exact nd.1 (by rw [← z]; exact List.mem_map_of_mem h)
theorem look_tally {c : List (Int × Int)} {k : Int} (h : k ∈ keysL c) : lookL k c = some (tally c k) := by
  obtain ⟨v, hv⟩ := lookL_some h
  unfold tally
  rw [hv]
  rfl
def addL (c : List (Int × Int)) (k v : Int) : List (Int × Int) := putL k (tally c k + v) c
theorem tally_add (c : List (Int × Int)) (k v j : Int) : tally (addL c k v) j = tally c j + if j = k then v else 0 := by
  unfold addL
  rw [tally_put]
  by_cases h : j = k
  · subst h; rw [if_pos rfl, if_pos rfl]
  · rw [if_neg h, if_neg h]; omega
theorem keys_add (c : List (Int × Int)) (k v j : Int) : j ∈ keysL (addL c k v) ↔ j = k ∨ j ∈ keysL c := putL_keys k _ j c
theorem nd_add {c : List (Int × Int)} {k v : Int} (h : (keysL c).Nodup) : (keysL (addL c k v)).Nodup := putL_nd h
theorem len_add (c : List (Int × Int)) (k v : Int) : (addL c k v).length ≤ c.length + 1 := putL_len k _ c
def addAll (c : List (Int × Int)) (l : List (Int × Int)) : List (Int × Int) := l.foldl (fun c q => addL c q.1 q.2) c
/-- what the pairs give of k -/
def tot (l : List (Int × Int)) (k : Int) : Int := (l.map fun q => if k = q.1 then q.2 else 0).sum
theorem tot_nil (k : Int) : tot [] k = 0 := rfl
theorem tot_cons (q : Int × Int) (l : List (Int × Int)) (k : Int) : tot (q :: l) k = (if k = q.1 then q.2 else 0) + tot l k := by
  unfold tot
  rw [List.map_cons, List.sum_cons]
theorem tot_tally {l : List (Int × Int)} (nd : (keysL l).Nodup) (k : Int) : tot l k = tally l k := by
  induction l with
  | nil => rfl
  | cons q c ih =>
    unfold keysL at nd ih
    rw [List.map_cons, List.nodup_cons] at nd
    rw [tot_cons, tally_cons, ih nd.2]
    split
    · rename_i e
      rw [tally_none (by subst e; exact nd.1)]
      omega
    · omega
theorem tally_all (l : List (Int × Int)) : ∀ (c : List (Int × Int)) (k : Int), tally (addAll c l) k = tally c k + tot l k := by
  induction l with
  | nil => intro c k; rw [tot_nil]; unfold addAll; simp
  | cons q l ih =>
    intro c k
    have e : addAll c (q :: l) = addAll (addL c q.1 q.2) l := rfl
    rw [e, ih, tally_add, tot_cons]
    omega
theorem keys_all (l : List (Int × Int)) : ∀ (c : List (Int × Int)) (k : Int), k ∈ keysL (addAll c l) ↔ k ∈ keysL c ∨ k ∈ keysL l := by
  induction l with
  | nil => intro c k; unfold addAll keysL; simp
  | cons q l ih =>
    intro c k
    have e : addAll c (q :: l) = addAll (addL c q.1 q.2) l := rfl
    have e2 : k ∈ keysL (q :: l) ↔ k = q.1 ∨ k ∈ keysL l := by unfold keysL; rw [List.map_cons, List.mem_cons]
    rw [e, ih, keys_add, e2]
    constructor
    · rintro ((h | h) | h)
      · exact .inr (.inl h)
      · exact .inl h
      · exact .inr (.inr h)
    · rintro (h | h | h)
      · exact .inl (.inr h)
      · exact .inl (.inl h)
      · exact .inr h
theorem nd_all (l : List (Int × Int)) : ∀ {c : List (Int × Int)}, (keysL c).Nodup → (keysL (addAll c l)).Nodup := by
  induction l with
  | nil => intro c h; exact h
  | cons q l ih => intro c h; exact ih (nd_add h)
theorem len_all (l : List (Int × Int)) : ∀ (c : List (Int × Int)), (addAll c l).length ≤ c.length + l.length := by
  induction l with
  | nil => intro c; unfold addAll; simp
  | cons q l ih =>
    intro c
    have e : addAll c (q :: l) = addAll (addL c q.1 q.2) l := rfl
    have := ih (addL c q.1 q.2)
    have := len_add c q.1 q.2
    rw [e, List.length_cons]
    omega
/-- the things, counted -/
def cnt (L : List Int) : List (Int × Int) := addAll [] (L.map fun x => (x, 1))
theorem cnt_tally (L : List Int) (k : Int) : tally (cnt L) k = (L.count k : Nat) := by
  unfold cnt
  rw [tally_all, tally_nil]
  induction L with
  | nil => rfl
  | cons x L ih =>
    rw [List.map_cons, tot_cons, List.count_cons]
    dsimp only
    by_cases h : k = x
    · subst h
      simp at ih ⊢
      omega
    · have h2 : ¬ x = k := fun z => h z.symm
      simp [h, h2] at ih ⊢
      omega
theorem cnt_keys (L : List Int) (k : Int) : k ∈ keysL (cnt L) ↔ k ∈ L := by
  unfold cnt
  rw [keys_all]
  unfold keysL
  simp
theorem cnt_nd (L : List Int) : (keysL (cnt L)).Nodup := nd_all _ (by unfold keysL; simp)
theorem cnt_len (L : List Int) : (cnt L).length ≤ L.length := by
  have := len_all (L.map fun x => (x, 1)) []
  simpa [cnt] using this
/-- the kinds, in order, of which there are any -/
def canon (c : List (Int × Int)) : List (Int × Int) := ((sortI (keysL c)).filter fun k => decide (0 < tally c k)).map fun k => (k, tally c k)
theorem canon_mem {c : List (Int × Int)} {q : Int × Int} : q ∈ canon c ↔ q.1 ∈ keysL c ∧ 0 < q.2 ∧ q.2 = tally c q.1 := by
  unfold canon
  rw [List.mem_map]
  constructor
  · rintro ⟨k, hk, rfl⟩
    rw [List.mem_filter] at hk
    exact ⟨(sortI_perm (keysL c)).mem_iff.mp hk.1, by simpa using hk.2, rfl⟩
  · rintro ⟨h1, h2, h3⟩
    refine ⟨q.1, List.mem_filter.mpr ⟨(sortI_perm (keysL c)).mem_iff.mpr h1, by rw [← h3]; simpa using h2⟩, ?_⟩
    rw [← h3]
theorem canon_sorted {c : List (Int × Int)} (nd : (keysL c).Nodup) : (keysL (canon c)).Pairwise (· < ·) := by
  have e : keysL (canon c) = (sortI (keysL c)).filter fun k => decide (0 < tally c k) := by
    unfold canon
    rw [show ∀ l : List (Int × Int), keysL l = l.map (·.1) from fun _ => rfl, List.map_map]
    simp [Function.comp_def]
  rw [e]
  exact (sortI_lt nd).filter _
/-- a heap's kinds: sorted, none of none -/
def Kinds (ks : List (Int × Int)) : Prop := (keysL ks).Pairwise (· < ·) ∧ ∀ q ∈ ks, 0 < q.2
theorem Kinds.nd {ks : List (Int × Int)} (h : Kinds ks) : (keysL ks).Nodup := h.1.imp fun z => Int.ne_of_lt z
theorem canon_kinds {c : List (Int × Int)} (nd : (keysL c).Nodup) : Kinds (canon c) := ⟨canon_sorted nd, fun q hq => (canon_mem.mp hq).2.1⟩
theorem canon_tally {c : List (Int × Int)} (nd : (keysL c).Nodup) (k : Int) : tally (canon c) k = if 0 < tally c k then tally c k else 0 := by
  by_cases h : 0 < tally c k
  · rw [if_pos h]
    have hk : k ∈ keysL c := by
      by_cases z : k ∈ keysL c
      · exact z
      · have := tally_none z; omega
    exact tally_mem (canon_kinds nd).nd (q := (k, tally c k)) (canon_mem.mpr ⟨hk, h, rfl⟩)
  · rw [if_neg h]
    apply tally_none
    intro z
    unfold keysL at z
    obtain ⟨q, hq, rfl⟩ := List.mem_map.mp z
    have := canon_mem.mp hq
    omega
theorem canon_len (c : List (Int × Int)) : (canon c).length ≤ c.length := by
  unfold canon
  rw [List.length_map]
  refine Nat.le_trans (List.length_filter_le _ _) ?_
  rw [(sortI_perm (keysL c)).length_eq]
  unfold keysL
  simp
theorem dk_put (c : List (Int × Int)) (k v : Int) (h : c.length < 1000000) : setIxP (.own (dk c)) (.int k) (.int v) = some (.own (dk (putL k v c))) := by
  simp only [setIxP, keyP, Option.bind_some, List.length_map, putL_ks, putL_vs]
  rw [if_pos (by unfold LIM; omega), putL_ks]
theorem getD_tally (c : List (Int × Int)) (k : Int) : (Option.map PV.int (lookL k c)).getD (.int 0) = .int (tally c k) := by
  unfold tally
  cases lookL k c <;> rfl
theorem dget_dk (c : List (Int × Int)) (k : Int) : dgetP [dk c, .int k, .int 0] = some (.int (tally c k)) := by
  have e : dgetP [dk c, .int k, .int 0] = some ((findK (Sum.inl k : Int ⊕ PySem.Str) (c.map fun q => (Sum.inl q.1 : Int ⊕ PySem.Str)) (c.map fun q => .int q.2)).getD (.int 0)) := rfl
  rw [e, lookL_eq, getD_tally]
theorem idx_dk {c : List (Int × Int)} {k : Int} (h : k ∈ keysL c) : idxP [dk c, .int k] = some (.int (tally c k)) := by
  have e : idxP [dk c, .int k] = findK (Sum.inl k : Int ⊕ PySem.Str) (c.map fun q => (Sum.inl q.1 : Int ⊕ PySem.Str)) (c.map fun q => .int q.2) := rfl
  rw [e, lookL_eq, look_tally h]
  rfl
theorem noDs_fn {α : Type} (l : List α) (f : α → Int) : PV.noDs (l.map fun x => .int (f x)) = true := by
  rw [noDs_all, List.all_map]
  exact List.all_eq_true.mpr fun x _ => rfl
theorem noDs_prs (l : List (Int × Int)) : PV.noDs (l.map fun q => .tup [.int q.1, .int q.2]) = true := by
  rw [noDs_all, List.all_map]
  refine List.all_eq_true.mpr fun x _ => ?_
  show PV.noD (.tup [.int x.1, .int x.2]) = true
  rw [noD_t, noDs_c, noDs_c, noDs_0]
  rfl
theorem pairsK_map (l : List (Int × Int)) : pairsK (l.map fun q => .tup [.int q.1, .int q.2]) = some (l.map fun q => ((Sum.inl q.1 : Int ⊕ PySem.Str), .int q.2)) := by
  induction l with
  | nil => rfl
  | cons q l ih =>
    rw [List.map_cons, pairsK, ih]
    rfl
def putAll (c l : List (Int × Int)) : List (Int × Int) := l.foldl (fun c q => putL q.1 q.2 c) c
theorem dmk_put (l : List (Int × Int)) : ∀ c : List (Int × Int), dmk (l.map fun q => ((Sum.inl q.1 : Int ⊕ PySem.Str), .int q.2)) (c.map fun q => (Sum.inl q.1 : Int ⊕ PySem.Str)) (c.map fun q => .int q.2) = dk (putAll c l) := by
  induction l with
  | nil => intro c; rfl
  | cons q l ih =>
    intro c
    rw [List.map_cons, dmk]
    dsimp only
    rw [putL_ks, putL_vs, ih]
    rfl
theorem putL_new {k v : Int} : ∀ {c : List (Int × Int)}, k ∉ keysL c → putL k v c = c ++ [(k, v)]
  | [], _ => rfl
  | q :: c, h => by
    unfold keysL at h
    rw [List.map_cons, List.mem_cons] at h
    rw [putL, if_neg (fun z => h (.inl z)), putL_new (c := c) fun z => h (.inr z)]
    rfl
theorem putAll_new : ∀ {l c : List (Int × Int)}, (keysL (c ++ l)).Nodup → putAll c l = c ++ l
  | [], c, _ => by simp [putAll]
  | q :: l, c, h => by
    have e : c ++ q :: l = (c ++ [q]) ++ l := by simp
    have hq : q.1 ∉ keysL c := by
      intro z
      unfold keysL at h z
      rw [List.map_append, List.map_cons] at h
      have := List.nodup_append.mp h
      exact this.2.2 _ z _ (by simp) rfl
    have e2 : putAll c (q :: l) = putAll (putL q.1 q.2 c) l := rfl
    rw [e2, putL_new hq, e]
    exact putAll_new (by rw [← e]; exact h)
theorem dict_prs {l : List (Int × Int)} (nd : (keysL l).Nodup) (h : l.length ≤ 1000000) : dict1P [.xt (l.map fun q => .tup [.int q.1, .int q.2])] = some (dk l) := by
  have e : dict1P [.xt (l.map fun q => .tup [.int q.1, .int q.2])] = if (l.map fun q => PV.tup [.int q.1, .int q.2]).length ≤ LIM then (pairsK (l.map fun q => .tup [.int q.1, .int q.2])).map fun r => dmk r [] [] else none := rfl
  rw [e, List.length_map, if_pos (by unfold LIM; exact h), pairsK_map, Option.map_some]
  have := dmk_put l []
  rw [List.map_nil, List.map_nil] at this
  rw [this, putAll_new (by simpa using nd)]
  rfl
theorem keys_dk (c : List (Int × Int)) : keysP (c.map fun q => (Sum.inl q.1 : Int ⊕ PySem.Str)) = (keysL c).map .int := by
  unfold keysP keysL
  rw [List.map_map, List.map_map]
  rfl
/-- a filling: lots and their times -/
def flE (q : List Int × Int) : PV := .tup [.tup (q.1.map .int), .int q.2]
def FlP (fl : List (List Int × Int)) (p : PV) : Prop := p = .tup (fl.map flE) ∨ p = .xt (fl.map flE) ∨ p = .lst (fl.map flE)
theorem noDs_fl (fl : List (List Int × Int)) : PV.noDs (fl.map flE) = true := by
  rw [noDs_all, List.all_map]
  refine List.all_eq_true.mpr fun x _ => ?_
  show PV.noD (.tup [.tup (x.1.map .int), .int x.2]) = true
  rw [noD_t, noDs_c, noDs_c, noDs_0, noD_t, noDs_i]
  rfl
theorem FlP.noD {fl : List (List Int × Int)} {p : PV} (h : FlP fl p) : PV.noD p = true := by
  rcases h with rfl | rfl | rfl
  · rw [noD_t, noDs_fl]
  · rw [noD_x, noDs_fl]
  · rw [noD_l, noDs_fl]
def timesL (l : List (Int × Int)) (t : Int) : List (Int × Int) := l.map fun r => (r.1, r.2 * t)
theorem keys_times (l : List (Int × Int)) (t : Int) : keysL (timesL l t) = keysL l := by
  unfold keysL timesL
  rw [List.map_map]
  rfl
theorem tot_times (l : List (Int × Int)) (t k : Int) : tot (timesL l t) k = tot l k * t := by
  induction l with
  | nil => rw [tot_nil, Int.zero_mul]; rfl
  | cons q l ih =>
    have e : timesL (q :: l) t = (q.1, q.2 * t) :: timesL l t := rfl
    rw [e, tot_cons, tot_cons, ih, Int.add_mul]
    dsimp only
    split
    · rfl
    · omega
/-- what a filling takes -/
def takes (fl : List (List Int × Int)) : List (Int × Int) := fl.foldl (fun c q => addAll c (timesL (cnt q.1) q.2)) []
def used (fl : List (List Int × Int)) (k : Int) : Int := (fl.map fun q => (q.1.count k : Int) * q.2).sum
theorem takes_gen (fl : List (List Int × Int)) : ∀ c : List (Int × Int), (keysL c).Nodup →
    (∀ k, tally (fl.foldl (fun c q => addAll c (timesL (cnt q.1) q.2)) c) k = tally c k + used fl k) ∧ (keysL (fl.foldl (fun c q => addAll c (timesL (cnt q.1) q.2)) c)).Nodup ∧
    (∀ k, k ∈ keysL (fl.foldl (fun c q => addAll c (timesL (cnt q.1) q.2)) c) ↔ k ∈ keysL c ∨ ∃ q ∈ fl, k ∈ q.1) := by
  induction fl with
  | nil => intro c nd; exact ⟨fun k => by simp [used], nd, fun k => by simp⟩
  | cons q fl ih =>
    intro c nd
    obtain ⟨h1, h2, h3⟩ := ih (addAll c (timesL (cnt q.1) q.2)) (nd_all _ nd)
    refine ⟨fun k => ?_, h2, fun k => ?_⟩
    · rw [List.foldl_cons, h1, tally_all, tot_times, tot_tally (cnt_nd _), cnt_tally]
      unfold used
      rw [List.map_cons, List.sum_cons]
      omega
    · rw [List.foldl_cons, h3, keys_all, keys_times, cnt_keys]
      simp only [List.mem_cons]
      constructor
      · rintro ((h | h) | ⟨r, hr, h⟩)
        · exact .inl h
        · exact .inr ⟨q, .inl rfl, h⟩
        · exact .inr ⟨r, .inr hr, h⟩
      · rintro (h | ⟨r, rfl | hr, h⟩)
        · exact .inl (.inl h)
        · exact .inl (.inr h)
        · exact .inr ⟨r, hr, h⟩
theorem takes_tally (fl : List (List Int × Int)) (k : Int) : tally (takes fl) k = used fl k := by
  have := (takes_gen fl [] (by unfold keysL; simp)).1 k
  rw [tally_nil, Int.zero_add] at this
  exact this
theorem takes_nd (fl : List (List Int × Int)) : (keysL (takes fl)).Nodup := (takes_gen fl [] (by unfold keysL; simp)).2.1
theorem takes_keys (fl : List (List Int × Int)) (k : Int) : k ∈ keysL (takes fl) ↔ ∃ q ∈ fl, k ∈ q.1 := by
  have := (takes_gen fl [] (by unfold keysL; simp)).2.2 k
  unfold takes
  rw [this]
  unfold keysL
  simp
theorem len_put_old {k v : Int} : ∀ {c : List (Int × Int)}, k ∈ keysL c → (putL k v c).length = c.length
  | [], h => by simp [keysL] at h
  | q :: c, h => by
    unfold keysL at h
    rw [List.map_cons, List.mem_cons] at h
    rw [putL]
    split
    · rfl
    · rename_i e
      rw [List.length_cons, List.length_cons, len_put_old (c := c) (h.resolve_left e)]
theorem len_all_old : ∀ {l c : List (Int × Int)}, (∀ k ∈ keysL l, k ∈ keysL c) → (addAll c l).length = c.length
  | [], c, _ => rfl
  | q :: l, c, h => by
    have hq : q.1 ∈ keysL c := h q.1 (by unfold keysL; simp)
    have e : addAll c (q :: l) = addAll (addL c q.1 q.2) l := rfl
    rw [e, len_all_old (l := l) (c := addL c q.1 q.2) fun k hk => (keys_add c q.1 q.2 k).mpr (.inr (h k (by unfold keysL at hk ⊢; simp at hk ⊢; exact .inr hk)))]
    exact len_put_old hq
theorem nodup_len : ∀ {a b : List Int}, a.Nodup → (∀ k ∈ a, k ∈ b) → a.length ≤ b.length
  | [], b, _, _ => Nat.zero_le _
  | x :: a, b, nd, h => by
    have nd := List.nodup_cons.mp nd
    have hx := h x (by simp)
    have := nodup_len (a := a) (b := b.erase x) nd.2 fun k hk => by
      have hne : k ≠ x := fun z => nd.1 (z ▸ hk)
      exact (List.mem_erase_of_ne hne).mpr (h k (by simp [hk]))
    have h2 := List.length_erase_of_mem hx
    have h3 : 0 < b.length := List.length_pos_of_mem hx
    rw [List.length_cons]
    omega
theorem len_sub {c d : List (Int × Int)} (nd : (keysL c).Nodup) (h : ∀ k ∈ keysL c, k ∈ keysL d) : c.length ≤ d.length := by
  have := nodup_len nd h
  simpa [keysL] using this
/-- < of lists of ints -/
def ltI : List Int → List Int → Bool
  | [], [] => false
  | [], _ :: _ => true
  | _ :: _, [] => false
  | x :: xs, y :: ys => if x = y then ltI xs ys else decide (x < y)
theorem ltPs_ints : ∀ a b : List Int, ltPs (a.map .int) (b.map .int) = some (ltI a b)
  | [], [] => by simp [ltPs, ltI]
  | [], _ :: _ => by simp [ltPs, ltI]
  | _ :: _, [] => by simp [ltPs, ltI]
  | x :: xs, y :: ys => by
    rw [List.map_cons, List.map_cons, ltPs, ltPs_ints xs ys, ltI]
    dsimp only
    rw [eqP_ii]
    by_cases h : x = y
    · rw [if_pos h, if_pos (by simpa using h)]
    · rw [if_neg h, if_neg (by simpa using h)]
      rw [ltP]
theorem ltOP_ints (a b : List Int) : ltOP [.tup (a.map .int), .tup (b.map .int)] = some (.bl (ltI a b)) := by
  have e : ltOP [.tup (a.map .int), .tup (b.map .int)] = if (PV.tup (a.map .int)).isD 60 = true ∧ (PV.tup (b.map .int)).isD 60 = true then (ltPs (a.map .int) (b.map .int)).map .bl else none := rfl
  have hi : ∀ l : List Int, (PV.tup (l.map .int)).isD 60 = true := fun l => by
    unfold PV.isD
    rw [List.all_map, List.all_eq_true]
    intro x _
    show PV.isD _ (.int x) = true
    unfold PV.isD
    rfl
  rw [e, if_pos ⟨hi a, hi b⟩, ltPs_ints]
  rfl

/-- a lot: 1 to 100 sizes, in order -/
def LotOk (L : List Int) : Prop := 1 ≤ L.length ∧ L.length ≤ 100 ∧ (∀ x ∈ L, 1 ≤ x ∧ x ≤ 1000000000000) ∧ L.Pairwise (· ≤ ·)
theorem tot_const (v k : Int) : ∀ L : List Int, tot (L.map fun x => (x, v)) k = (L.count k : Int) * v
  | [] => by simp [tot]
  | x :: L => by
    rw [List.map_cons, tot_cons, tot_const v k L, List.count_cons]
    dsimp only
    by_cases h : k = x
    · subst h
      simp [Int.add_mul]
      omega
    · have h2 : ¬ x = k := fun z => h z.symm
      simp [h, h2]
theorem used_cons (q : List Int × Int) (fl : List (List Int × Int)) (k : Int) : used (q :: fl) k = (q.1.count k : Int) * q.2 + used fl k := by
  unfold used
  rw [List.map_cons, List.sum_cons]
theorem used_nil (k : Int) : used [] k = 0 := rfl
theorem used_nn {k : Int} : ∀ {fl : List (List Int × Int)}, (∀ q ∈ fl, (0 : Int) ≤ q.2) → 0 ≤ used fl k
  | [], _ => by simp [used]
  | q :: fl, h => by
    rw [used_cons]
    have h1 := used_nn (k := k) (fl := fl) fun r hr => h r (by simp [hr])
    have h2 := Int.mul_nonneg (show (0 : Int) ≤ (q.1.count k : Int) by omega) (h q (by simp))
    omega
theorem mem_of_tally {ks : List (Int × Int)} {k : Int} (h : tally ks k ≠ 0) : k ∈ keysL ks := by
  by_cases z : k ∈ keysL ks
  · exact z
  · exact absurd (tally_none z) h
/-- so many of each taken out -/
theorem less_kinds {ks : List (Int × Int)} {L : List Int} {t : Int} (hk : Kinds ks) (ht : 1 ≤ t) (h : ∀ k, (L.count k : Int) * t ≤ tally ks k) :
    Kinds (canon (addAll ks (L.map fun x => (x, -t)))) ∧ (∀ k, tally (canon (addAll ks (L.map fun x => (x, -t)))) k = tally ks k - (L.count k : Int) * t) ∧ (canon (addAll ks (L.map fun x => (x, -t)))).length ≤ ks.length ∧ ∀ k ∈ L, k ∈ keysL ks := by
  have sub : ∀ k ∈ L, k ∈ keysL ks := fun k hkL => by
    apply mem_of_tally
    have h1 := h k
    have h2 : 0 < L.count k := List.count_pos_iff.mpr hkL
    have := Int.mul_pos (show (0 : Int) < (L.count k : Int) by omega) (show (0 : Int) < t by omega)
    omega
  have nd : (keysL (addAll ks (L.map fun x => (x, -t)))).Nodup := nd_all _ hk.nd
  refine ⟨canon_kinds nd, fun k => ?_, ?_, sub⟩
  · rw [canon_tally nd, tally_all, tot_const]
    have h1 := h k
    have e : (L.count k : Int) * -t = -((L.count k : Int) * t) := Int.mul_neg _ _
    rw [e]
    split <;> omega
  · have h1 := canon_len (addAll ks (L.map fun x => (x, -t)))
    rw [len_all_old (fun k hk => by
      unfold keysL at hk
      rw [List.map_map] at hk
      obtain ⟨x, hx, rfl⟩ := List.mem_map.mp hk
      exact sub x hx)] at h1
    exact h1
theorem keys_put_old {k v : Int} : ∀ {c : List (Int × Int)}, k ∈ keysL c → keysL (putL k v c) = keysL c
  | [], h => by simp [keysL] at h
  | q :: c, h => by
    unfold keysL at h ⊢
    rw [List.map_cons, List.mem_cons] at h
    rw [putL]
    split
    · rfl
    · rename_i e
      rw [List.map_cons, List.map_cons, show List.map (fun x => x.1) (putL k v c) = keysL (putL k v c) from rfl, keys_put_old (c := c) (h.resolve_left e)]
      rfl
/-- a dict's keys, sorted -/
theorem sorted_dk {c : List (Int × Int)} (hl : c.length < 64) : sortedDP [dk c] = some (.lst ((sortI (keysL c)).map .int)) := by
  have e0 : sortedP [dk c] = if (c.map fun q => (Sum.inl q.1 : Int ⊕ PySem.Str)).length < 64 then (intKeys (c.map fun q => (Sum.inl q.1 : Int ⊕ PySem.Str))).map fun ns => .lst ((sortI ns).map .int) else none := rfl
  have e1 : sortedP [dk c] = some (.lst ((sortI (keysL c)).map .int)) := by rw [e0, List.length_map, if_pos hl, intKeys_map]; rfl
  unfold sortedDP
  rw [e1]
theorem sortI_len (l : List Int) : (sortI l).length = l.length := (sortI_perm l).length_eq
theorem keysL_len (c : List (Int × Int)) : (keysL c).length = c.length := by unfold keysL; simp
theorem find_dk {c : List (Int × Int)} {k : Int} (h : k ∈ keysL c) : findK (Sum.inl k : Int ⊕ PySem.Str) (c.map fun q => (Sum.inl q.1 : Int ⊕ PySem.Str)) (c.map fun q => PV.int q.2) = some (.int (tally c k)) := idx_dk h
theorem sortI_mem {l : List Int} {k : Int} : k ∈ sortI l ↔ k ∈ l := (sortI_perm l).mem_iff
set_option maxHeartbeats 0
-- use: U_cts U_pool
def ctP (c : List (Int × Int)) (p : PV) : Option PV := if 0 < tally c p.i then some (.tup [.int p.i, .int (tally c p.i)]) else none
theorem ctP_all (c : List (Int × Int)) : ∀ l : List Int, (l.map PV.int).filterMap (ctP c) = (((l.filter fun k => decide (0 < tally c k)).map fun k => (k, tally c k)).map fun q => PV.tup [.int q.1, .int q.2])
  | [] => rfl
  | k :: l => by
    rw [List.map_cons, List.filterMap_cons, List.filter_cons]
    unfold ctP
    by_cases h : 0 < tally c k
    · rw [show (PV.int k).i = k from rfl, if_pos h, if_pos (by simpa using h), List.map_cons, List.map_cons]
      dsimp only
      rw [← ctP_all c l]
      rfl
    · rw [show (PV.int k).i = k from rfl, if_neg h, if_neg (by simpa using h)]
      dsimp only
      rw [← ctP_all c l]
      rfl
set_option maxHeartbeats 0
theorem rngP_mem {a b : Int} {x : PV} (h : x ∈ rngP a b) : ∃ i : Int, x = .int i ∧ a ≤ i ∧ i < b := by
  obtain ⟨i, hi⟩ := List.mem_iff_getElem?.mp h
  obtain ⟨rfl, h2⟩ := rngP_at hi
  exact ⟨_, rfl, by omega, by omega⟩
theorem blsOf_true {α : Type} (l : List α) : blsOf (l.map fun _ => PV.bl true) = some (l.map fun _ => true) := by
  induction l with
  | nil => rfl
  | cons x l ih => simp [blsOf, ih]
theorem allL_true {α : Type} (l : List α) : allLP [.lst (l.map fun _ => PV.bl true)] = some (.bl true) := by
  show (blsOf (l.map fun _ => PV.bl true)).map (fun ns => PV.bl (ns.all id)) = _
  rw [blsOf_true]
  simp
theorem isD_ints (n : Nat) (l : List Int) : (l.map PV.int).all (PV.isD n) = true := by
  rw [List.all_map, List.all_eq_true]
  intro x _
  show PV.isD n (.int x) = true
  unfold PV.isD
  rfl
set_option maxHeartbeats 0
-- use: U_list U_cts U_pool
set_option maxHeartbeats 0
-- use: U_cts U_list U_known
theorem sortI_id {L : List Int} : sortI L = L ↔ L.Pairwise (· ≤ ·) := by
  constructor
  · intro h
    rw [← h]
    exact sortI_sorted L
  · intro h
    exact ((sortI_perm L).symm.eq_of_pairwise (fun a b _ _ x y => by omega) h (sortI_sorted L)).symm
set_option maxHeartbeats 0
-- use: U_cts
/-! dicts from lists of ints to ints -/
abbrev kT' (k : List Int) : List (Int ⊕ PySem.Str) := k.map Sum.inl
abbrev dt (kv : List (List Int × Int)) : PV := .dT (kv.map fun q => kT' q.1) (kv.map fun q => .int q.2)
def putT (k : List Int) (v : Int) : List (List Int × Int) → List (List Int × Int)
  | [] => [(k, v)]
  | q :: l => if k = q.1 then (q.1, v) :: l else q :: putT k v l
def lookT (k : List Int) : List (List Int × Int) → Option Int
  | [] => none
  | q :: l => if k = q.1 then some q.2 else lookT k l
def tallyT (c : List (List Int × Int)) (k : List Int) : Int := (lookT k c).getD 0
def addT (c : List (List Int × Int)) (k : List Int) (v : Int) : List (List Int × Int) := putT k (tallyT c k + v) c
set_option maxHeartbeats 0
-- use: U_cts U_tdict U_list BrF2
/-! lots put together -/
theorem putT_len (k : List Int) (v : Int) : ∀ l : List (List Int × Int), (putT k v l).length ≤ l.length + 1
  | [] => by simp [putT]
  | q :: l => by
    unfold putT
    split
    · simp
    · simp [putT_len k v l]
def leI (a b : List Int) : Bool := !ltI b a
def sortLL (l : List (List Int)) : List (List Int) := l.mergeSort leI
theorem ltI_irr : ∀ a : List Int, ltI a a = false
  | [] => rfl
  | x :: a => by rw [ltI, if_pos rfl]; exact ltI_irr a
theorem ltI_trans : ∀ {a b c : List Int}, ltI a b = true → ltI b c = true → ltI a c = true
  | [], [], _, h, _ => by cases h
  | [], _ :: _, [], _, h => by cases h
  | [], _ :: _, _ :: _, _, _ => rfl
  | _ :: _, [], _, h, _ => by cases h
  | _ :: _, _ :: _, [], _, h => by cases h
  | x :: a, y :: b, z :: c, h, k => by
    rw [ltI] at h k ⊢
    split at h
    · rename_i e
      subst e
      split at k
      · rename_i e
        subst e
        rw [if_pos rfl]
        exact ltI_trans h k
      · rename_i e
        rw [if_neg e]
        exact k
    · rename_i e
      have h := of_decide_eq_true h
      split at k
      · rename_i e2
        subst e2
        rw [if_neg e]
        exact decide_eq_true h
      · have k := of_decide_eq_true k
        rw [if_neg (by omega)]
        exact decide_eq_true (by omega)
theorem ltI_tri : ∀ {a b : List Int}, ltI a b = false → ltI b a = false → a = b
  | [], [], _, _ => rfl
  | [], _ :: _, h, _ => by cases h
  | _ :: _, [], _, h => by cases h
  | x :: a, y :: b, h, k => by
    rw [ltI] at h k
    split at h
    · rename_i e
      subst e
      rw [if_pos rfl] at k
      rw [ltI_tri h k]
    · rename_i e
      rw [if_neg (fun z => e z.symm)] at k
      have h := of_decide_eq_false h
      have k := of_decide_eq_false k
      omega
theorem ltI_asym {a b : List Int} (h : ltI a b = true) : ltI b a = false := by
  cases k : ltI b a with
  | false => rfl
  | true =>
    have := ltI_trans h k
    rw [ltI_irr] at this
    cases this
theorem leI_trans (a b c : List Int) (h : leI a b = true) (k : leI b c = true) : leI a c = true := by
  unfold leI at *
  cases h1 : ltI c a with
  | false => rfl
  | true =>
    have h2 : ltI b a = false := by simpa using h
    have h3 : ltI c b = false := by simpa using k
    cases h4 : ltI a b with
    | true =>
      have := ltI_trans h1 h4
      rw [h3] at this
      cases this
    | false =>
      have := ltI_tri h4 h2
      subst this
      rw [h1] at h3
      cases h3
theorem leI_total (a b : List Int) : (leI a b || leI b a) = true := by
  unfold leI
  cases h : ltI b a with
  | false => rfl
  | true => rw [ltI_asym h]; rfl
theorem sortLL_perm (l : List (List Int)) : (sortLL l).Perm l := List.mergeSort_perm _ _
theorem sortLL_sorted (l : List (List Int)) : (sortLL l).Pairwise fun a b => leI a b = true := List.pairwise_mergeSort leI_trans leI_total l
theorem sortLL_lt {l : List (List Int)} (h : l.Nodup) : (sortLL l).Pairwise fun a b => ltI a b = true := by
  have h2 : (sortLL l).Nodup := (sortLL_perm l).nodup_iff.mpr h
  refine (List.Pairwise.and (sortLL_sorted l) h2).imp fun {a b} ⟨x, y⟩ => ?_
  unfold leI at x
  cases k : ltI a b with
  | true => rfl
  | false => exact absurd (ltI_tri k (by simpa using x)) y
theorem lex_ints : ∀ a b : List Int, PyProof.Rows.lexLt PyProof.Rows.itemOrd (PySem.W.keyToksAll (PV.toDs (a.map .int))) (PySem.W.keyToksAll (PV.toDs (b.map .int))) = ltI a b
  | [], [] => by simp [PV.toDs, PySem.W.keyToksAll, PyProof.Rows.lexLt, ltI, PyProof.Rows.itemOrd, PyProof.Rows.itemLt]
  | [], y :: b => by simp [PV.toDs, PySem.W.keyToksAll, PyProof.Rows.lexLt, ltI, PyProof.Rows.itemOrd, PyProof.Rows.itemLt]
  | x :: a, [] => by simp [PV.toDs, PySem.W.keyToksAll, PyProof.Rows.lexLt, ltI, PyProof.Rows.itemOrd, PyProof.Rows.itemLt]
  | x :: a, y :: b => by
    have ih := lex_ints a b
    rw [List.map_cons, List.map_cons, PV.toDs, PV.toDs, PV.toD, PV.toD, PySem.W.toks_all_cons, PySem.W.toks_all_cons, PyProof.Rows.lex_self, ltI]
    have e : ∀ n : Int, PySem.W.keyToks (.int n) = [.inl n] := fun n => by rw [PySem.W.keyToks]
    rw [e, e, List.singleton_append, List.singleton_append]
    by_cases h : x = y
    · subst h
      rw [PyProof.Rows.lex_self, if_pos rfl, ih]
    · rw [PyProof.Rows.lex_diff (fun z => h (Sum.inl.inj z)), if_neg h]
      rfl
theorem alike_ints : ∀ a b : List Int, PySem.W.alikeAll (PV.toDs (a.map .int)) (PV.toDs (b.map .int)) = true
  | [], b => by rw [List.map_nil, PV.toDs, PySem.W.alikeAll]
  | x :: a, [] => by rw [List.map_nil, List.map_cons, PV.toDs, PV.toDs, PySem.W.alikeAll]
  | x :: a, y :: b => by
    rw [List.map_cons, List.map_cons, PV.toDs, PV.toDs, PySem.W.alikeAll, alike_ints a b, PV.toD, PV.toD, PySem.W.alike]
    rfl
abbrev xI (k : List Int) : PV := .xt (k.map .int)
theorem alike_xI (a b : List Int) : alikeP (xI a) (xI b) = true := by
  unfold alikeP
  rw [PV.toD, PV.toD, PySem.W.alike]
  exact alike_ints a b
theorem isD_xI (n : Nat) (k : List Int) : PV.isD (n + 1) (xI k) = true := by
  unfold PV.isD
  exact isD_ints n k
theorem ltD_xI (a b : List Int) : ltD (xI a) (xI b) = ltI a b := by
  unfold ltD
  rw [PV.toD, PV.toD, PySem.W.dataLt_tuple]
  exact lex_ints a b
theorem sortOk_xI {l : List (List Int)} (h : ∀ k ∈ l, k ≠ []) (hl : l.length ≤ 1000000) : sortOk (l.map xI) = true := by
  unfold sortOk
  simp only [Bool.and_eq_true, Bool.or_eq_true, List.all_eq_true, decide_eq_true_eq, List.length_map]
  refine ⟨⟨⟨?_, fun x hx y hy => ?_⟩, .inl fun x hx => ?_⟩, hl⟩
  · unfold PV.isD
    rw [List.all_map, List.all_eq_true]
    exact fun k _ => isD_xI 58 k
  · obtain ⟨a, _, rfl⟩ := List.mem_map.mp hx
    obtain ⟨b, _, rfl⟩ := List.mem_map.mp hy
    exact alike_xI a b
  · obtain ⟨a, ha, rfl⟩ := List.mem_map.mp hx
    cases a with
    | nil => exact absurd rfl (h _ ha)
    | cons x a => rfl
theorem sortD_xI (l : List (List Int)) : sortD (l.map xI) = (sortLL l).map xI := by
  unfold sortD sortLL
  exact (List.map_mergeSort (r := leI) (s := leD) (f := xI) (l := l) (fun a _ b _ => by unfold leI leD; rw [ltD_xI])).symm
abbrev keysTL (c : List (List Int × Int)) : List (List Int) := c.map (·.1)
/-! what stands in such a dict -/
/-! what stands in such a dict -/
theorem tallyT_put (c : List (List Int × Int)) (k : List Int) (v : Int) (j : List Int) : tallyT (putT k v c) j = if j = k then v else tallyT c j := by
  induction c with
  | nil =>
    unfold tallyT putT lookT
    split <;> rfl
  | cons q c ih =>
    unfold tallyT at *
    rw [putT]
    split
    · rename_i e
      subst e
      rw [lookT, lookT]
      dsimp only
      split <;> rfl
    · rename_i e
      rw [lookT, lookT]
      by_cases h : j = q.1
      · rw [if_pos h, if_pos h, if_neg]
        intro z
        exact e (by rw [← z, h])
      · rw [if_neg h, if_neg h, ih]
theorem putT_keys (k : List Int) (v : Int) (j : List Int) : ∀ c : List (List Int × Int), j ∈ keysTL (putT k v c) ↔ j = k ∨ j ∈ keysTL c
  | [] => by simp [putT]
  | q :: c => by
    unfold putT
    split
    · rename_i e
      simp only [List.map_cons, List.mem_cons, e]
      constructor
      · exact .inr
      · rintro (h | h)
        · exact .inl h
        · exact h
    · have ih := putT_keys k v j c
      simp only [List.map_cons, List.mem_cons] at ih ⊢
      rw [ih]
      constructor
      · rintro (h | h | h)
        · exact .inr (.inl h)
        · exact .inl h
        · exact .inr (.inr h)
      · rintro (h | h | h)
        · exact .inr (.inl h)
        · exact .inl h
        · exact .inr (.inr h)
theorem putT_nd {k : List Int} {v : Int} : ∀ {c : List (List Int × Int)}, (keysTL c).Nodup → (keysTL (putT k v c)).Nodup
  | [], _ => by simp [putT]
  | q :: c, h => by
    have h' := List.nodup_cons.mp h
    unfold putT
    split
    · exact h
    · rename_i e
      rw [keysTL, List.map_cons, List.nodup_cons]
      refine ⟨fun z => ?_, putT_nd h'.2⟩
      rcases (putT_keys k v q.1 c).mp z with z | z
      · exact e z.symm
      · exact h'.1 z
theorem tallyT_none {c : List (List Int × Int)} {k : List Int} (h : k ∉ keysTL c) : tallyT c k = 0 := by
  induction c with
  | nil => rfl
  | cons q c ih =>
    simp only [List.map_cons, List.mem_cons, not_or] at h
    unfold tallyT at *
    rw [lookT, if_neg h.1]
    exact ih h.2
theorem tallyT_mem {c : List (List Int × Int)} (nd : (keysTL c).Nodup) {q : List Int × Int} (h : q ∈ c) : tallyT c q.1 = q.2 := by
  induction c with
  | nil => cases h
  | cons p c ih =>
    rw [keysTL, List.map_cons, List.nodup_cons] at nd
    unfold tallyT at *
    rw [lookT]
    rcases List.mem_cons.mp h with rfl | h
    · rw [if_pos rfl]; rfl
    · rw [if_neg, ih nd.2 h]
      intro z
      exact nd.1 (by rw [← z]; exact List.mem_map_of_mem h)
theorem lookT_some {c : List (List Int × Int)} {k : List Int} (h : k ∈ keysTL c) : lookT k c = some (tallyT c k) := by
  induction c with
  | nil => cases h
  | cons q c ih =>
    unfold tallyT at *
    rw [lookT]
    by_cases e : k = q.1
    · rw [if_pos e]; rfl
    · rw [if_neg e]
      simp only [List.map_cons, List.mem_cons] at h
      exact ih (h.resolve_left e)
theorem ltI_nd {l : List (List Int)} (h : l.Pairwise fun a b => ltI a b = true) : l.Nodup := h.imp fun {a b} z e => by
  subst e
  rw [ltI_irr] at z
  cases z
/-- the dict, in order -/
def ofT (c : List (List Int × Int)) : List (List Int × Int) := (sortLL (keysTL c)).map fun k => (k, tallyT c k)
theorem map_tally {c : List (List Int × Int)} (nd : (keysTL c).Nodup) : (keysTL c).map (fun k => (k, tallyT c k)) = c := by
  rw [keysTL, List.map_map]
  conv => rhs; rw [← List.map_id c]
  apply List.map_congr_left
  intro q hq
  show (q.1, tallyT c q.1) = q
  rw [tallyT_mem nd hq]
theorem ofT_perm {c : List (List Int × Int)} (nd : (keysTL c).Nodup) : (ofT c).Perm c := by
  have h := (sortLL_perm (keysTL c)).map fun k => (k, tallyT c k)
  rw [map_tally nd] at h
  exact h
theorem ofT_sorted {c : List (List Int × Int)} (nd : (keysTL c).Nodup) : (keysTL (ofT c)).Pairwise fun a b => ltI a b = true := by
  have e : keysTL (ofT c) = sortLL (keysTL c) := by
    unfold ofT keysTL
    rw [List.map_map]
    simp [Function.comp_def]
  rw [e]
  exact sortLL_lt nd
theorem ofT_len (c : List (List Int × Int)) : (ofT c).length = c.length := by
  unfold ofT
  rw [List.length_map, (sortLL_perm _).length_eq, keysTL, List.length_map]
/-- a sum over what stands there -/
theorem sum_putT (f : List Int → Int → Int) (hf : ∀ k a b, f k (a + b) = f k a + f k b) (k : List Int) (v : Int) : ∀ {c : List (List Int × Int)}, ((addT c k v).map fun q => f q.1 q.2).sum = (c.map fun q => f q.1 q.2).sum + f k v := by
  intro c
  have gen : ∀ c : List (List Int × Int), ((putT k (tallyT c k + v) c).map fun q => f q.1 q.2).sum = (c.map fun q => f q.1 q.2).sum + f k v := by
    intro c
    induction c with
    | nil => simp [putT, tallyT, lookT]
    | cons q c ih =>
      rw [putT]
      by_cases e : k = q.1
      · subst e
        have e2 : tallyT (q :: c) q.1 = q.2 := by unfold tallyT; rw [lookT, if_pos rfl]; rfl
        rw [if_pos rfl, e2, List.map_cons, List.map_cons, List.sum_cons, List.sum_cons]
        dsimp only
        rw [hf]
        omega
      · have e2 : tallyT (q :: c) k = tallyT c k := by unfold tallyT; rw [lookT, if_neg e]
        rw [if_neg e, e2, List.map_cons, List.map_cons, List.sum_cons, List.sum_cons, ih]
        omega
  exact gen c
theorem perm_sum {l m : List Int} (h : l.Perm m) : l.sum = m.sum := by
  induction h with
  | nil => rfl
  | cons x _ ih => rw [List.sum_cons, List.sum_cons, ih]
  | swap x y l => simp only [List.sum_cons]; omega
  | trans _ _ i1 i2 => rw [i1, i2]
set_option maxHeartbeats 0
-- use: U_ptog
/-! dicts whose keys are known tuples of ints -/
def flX (q : List Int × Int) : PV := .tup [xI q.1, .int q.2]
abbrev kN (k : List Int) : PySem.NestedKey := .tup (k.map .num)
theorem nks_ints (k : List Int) : PV.nks (k.map .int) = some (k.map .num) := by
  induction k with
  | nil => rfl
  | cons x k ih => rw [List.map_cons, PV.nks, PV.nk, ih]; rfl
theorem nk_xI (k : List Int) : PV.nk (xI k) = some (kN k) := by rw [PV.nk, nks_ints]; rfl
theorem kq_xI (k : List Int) : (xI k).kq = kN k := by unfold PV.kq; rw [nk_xI]; rfl
theorem depth_nums (k : List Int) : PySem.NestedKey.depthAll (k.map .num) = 0 := by
  induction k with
  | nil => rfl
  | cons x k ih => rw [List.map_cons, PySem.NestedKey.depthAll, PySem.NestedKey.depth, ih]; rfl
theorem kok_xI (k : List Int) : (xI k).kok = true := by
  unfold PV.kok
  simp only [nks_ints, Option.isSome_some, Bool.true_and]
  rw [kq_xI, PySem.NestedKey.depth, depth_nums]
  rfl
theorem nums_inj {a b : List Int} (h : a.map PySem.NestedKey.num = b.map PySem.NestedKey.num) : a = b := by
  induction a generalizing b with
  | nil => cases b with | nil => rfl | cons y b => cases h
  | cons x a ih =>
    cases b with
    | nil => cases h
    | cons y b =>
      rw [List.map_cons, List.map_cons, List.cons.injEq] at h
      have h1 := h.1
      injection h1 with h1
      rw [h1, ih h.2]
theorem kN_inj {a b : List Int} (h : kN a = kN b) : a = b := by
  have h : PySem.NestedKey.tup _ = PySem.NestedKey.tup _ := h
  injection h with h
  exact nums_inj h
abbrev dtX (c : List (List Int × Int)) : PV := .dX (c.map fun q => xI q.1) (c.map fun q => .int q.2)
theorem kqs_xI (c : List (List Int × Int)) : (c.map fun q => xI q.1).map PV.kq = c.map fun q => kN q.1 := by
  rw [List.map_map]
  exact List.map_congr_left fun q _ => kq_xI q.1
theorem findX_eq (k : List Int) : ∀ l : List (List Int × Int), findK (kN k) (l.map fun q => kN q.1) (l.map fun q => .int q.2) = (lookT k l).map PV.int
  | [] => rfl
  | q :: l => by
    unfold lookT
    rw [List.map_cons, List.map_cons]
    unfold findK
    by_cases h : k = q.1
    · rw [if_pos h, if_pos (by rw [h])]; rfl
    · rw [if_neg h, if_neg (fun z => h (kN_inj z)), findX_eq k l]
theorem putX_vs (k : List Int) (v : Int) : ∀ l : List (List Int × Int), putVs (kN k) (.int v) (l.map fun q => kN q.1) (l.map fun q => .int q.2) = (putT k v l).map fun q => .int q.2
  | [] => rfl
  | q :: l => by
    unfold putT
    rw [List.map_cons, List.map_cons]
    unfold putVs
    by_cases h : k = q.1
    · rw [if_pos h, if_pos (by rw [h])]; rfl
    · rw [if_neg h, if_neg (fun z => h (kN_inj z)), putX_vs k v l]; rfl
theorem putT_there {k : List Int} {v : Int} : ∀ {c : List (List Int × Int)}, k ∈ keysTL c → keysTL (putT k v c) = keysTL c
  | [], h => by cases h
  | q :: c, h => by
    unfold putT
    by_cases e : k = q.1
    · rw [if_pos e]; rfl
    · rw [if_neg e]
      rcases List.mem_cons.mp h with h | h
      · exact absurd h e
      · show q.1 :: keysTL (putT k v c) = _
        rw [putT_there h]
        rfl
theorem putT_away {k : List Int} {v : Int} : ∀ {c : List (List Int × Int)}, k ∉ keysTL c → putT k v c = c ++ [(k, v)]
  | [], h => rfl
  | q :: c, h => by
    unfold putT
    have h' : ¬ (k = q.1 ∨ k ∈ keysTL c) := fun z => h (List.mem_cons.mpr z)
    rw [not_or] at h'
    rw [if_neg h'.1, putT_away h'.2]
    rfl
theorem putX_ks (k : List Int) (v : Int) (c : List (List Int × Int)) : putXs (xI k) (c.map fun q => xI q.1) = (putT k v c).map fun q => xI q.1 := by
  unfold putXs
  rw [kqs_xI, kq_xI]
  have e : ∀ c : List (List Int × Int), (c.map fun q => xI q.1) = (keysTL c).map xI := fun c => by rw [List.map_map]; rfl
  have i : kN k ∈ (c.map fun q => kN q.1) ↔ k ∈ keysTL c := by
    rw [List.mem_map, List.mem_map]
    constructor
    · rintro ⟨q, hq, h⟩
      exact ⟨q, hq, kN_inj h⟩
    · rintro ⟨q, hq, h⟩
      exact ⟨q, hq, by rw [h]⟩
  by_cases h : k ∈ keysTL c
  · rw [if_pos (i.mpr h), e, e, putT_there h]
  · rw [if_neg fun z => h (i.mp z), putT_away h, List.map_append]
    rfl
theorem dgetX_dt (c : List (List Int × Int)) (k : List Int) : dgetTP [dtX c, xI k, .int 0] = some (.int (tallyT c k)) := by
  have e : dgetTP [dtX c, xI k, .int 0] = if (xI k).kok = true then some ((findK (xI k).kq ((c.map fun q => xI q.1).map PV.kq) (c.map fun q => .int q.2)).getD (.int 0)) else none := rfl
  rw [e, if_pos (kok_xI k), kq_xI, kqs_xI, findX_eq]
  unfold tallyT
  cases lookT k c <;> rfl
theorem dtX_put (c : List (List Int × Int)) (k : List Int) (v : Int) (h : c.length < 1000000) : setIxP (.own (dtX c)) (xI k) (.int v) = some (.own (dtX (putT k v c))) := by
  have e : setIxP (.own (dtX c)) (xI k) (.int v) = if (xI k).kok = true ∧ (c.map fun q => xI q.1).length < LIM then some (.own (.dX (putXs (xI k) (c.map fun q => xI q.1)) (putVs (xI k).kq (.int v) ((c.map fun q => xI q.1).map PV.kq) (c.map fun q => .int q.2)))) else none := rfl
  rw [e, if_pos ⟨kok_xI k, by rw [List.length_map]; unfold LIM; omega⟩, putX_ks k v, kq_xI, kqs_xI, putX_vs]
theorem idxX_dt {c : List (List Int × Int)} {k : List Int} (h : k ∈ keysTL c) : idxTP [dtX c, xI k] = some (.int (tallyT c k)) := by
  have e : idxTP [dtX c, xI k] = if (xI k).kok = true then findK (xI k).kq ((c.map fun q => xI q.1).map PV.kq) (c.map fun q => .int q.2) else none := rfl
  rw [e, if_pos (kok_xI k), kq_xI, kqs_xI, findX_eq, lookT_some h]
  rfl
theorem sortX_dt {c : List (List Int × Int)} (h : ∀ k ∈ keysTL c, k ≠ []) (hl : c.length ≤ 1000000) : sortTP [dtX c] = some (.lst ((sortLL (keysTL c)).map xI)) := by
  have e : (c.map fun q => xI q.1) = (keysTL c).map xI := by rw [List.map_map]; rfl
  have e2 : sortTP [dtX c] = if sortOk (c.map fun q => xI q.1) = true then some (.lst (sortD (c.map fun q => xI q.1))) else none := rfl
  rw [e2, e, if_pos (sortOk_xI h (by simpa using hl)), sortD_xI]
def FlX (fl : List (List Int × Int)) (p : PV) : Prop := p = .tup (fl.map flX) ∨ p = .xt (fl.map flX) ∨ p = .lst (fl.map flX)
theorem noDs_ints (l : List Int) : PV.noDs (l.map .int) = true := by
  induction l with
  | nil => rfl
  | cons x l ih => rw [List.map_cons, PV.noDs, ih]; rfl
theorem noDs_flX (fl : List (List Int × Int)) : PV.noDs (fl.map flX) = true := by
  induction fl with
  | nil => rfl
  | cons q fl ih =>
    have : (flX q).noD = true := by
      unfold flX
      rw [PV.noD, PV.noDs, PV.noD, noDs_ints]
      rfl
    rw [List.map_cons, PV.noDs, ih, this]
    rfl
theorem FlX.noD {fl : List (List Int × Int)} {p : PV} (h : FlX fl p) : PV.noD p = true := by
  rcases h with rfl | rfl | rfl <;> (rw [PV.noD]; exact noDs_flX fl)
set_option maxHeartbeats 0
-- use: U_cts U_lotb U_list U_pool U_xd
/-- a lot of sizes, a good pair, a filling's lots rising, things enough -/
def lotJ (L : List Int) : Bool := decide (1 ≤ L.length) && decide (L.length ≤ 100) && L.all (fun x => decide (1 ≤ x ∧ x ≤ 1000000000000)) && decide (sortI L = L)
def goodJ (n : Int) (q : List Int × Int) : Bool := lotJ q.1 && decide (n ≤ q.1.sum) && decide (1 ≤ q.2)
def riseJ : List (List Int × Int) → Bool
  | a :: b :: l => ltI a.1 b.1 && riseJ (b :: l)
  | _ => true
def fitsJ (ks : List (Int × Int)) (fl : List (List Int × Int)) : Bool := (keysL (takes fl)).all fun k => decide (used fl k ≤ tally ks k)
def judgeJ (n : Int) (ks : List (Int × Int)) (fl : List (List Int × Int)) : Bool := fl.all (goodJ n) && riseJ fl && fitsJ ks fl
theorem lotJ_iff {L : List Int} : lotJ L = true ↔ LotOk L := by
  unfold lotJ LotOk
  simp only [Bool.and_eq_true, decide_eq_true_eq, List.all_eq_true, sortI_id, and_assoc]
theorem goodJ_iff {n : Int} {q : List Int × Int} : goodJ n q = true ↔ LotOk q.1 ∧ n ≤ q.1.sum ∧ 1 ≤ q.2 := by
  unfold goodJ
  simp only [Bool.and_eq_true, decide_eq_true_eq, lotJ_iff, and_assoc]
theorem riseJ_iff : ∀ {fl : List (List Int × Int)}, riseJ fl = true ↔ ∀ (i : Nat) (a b : List Int × Int), fl[i]? = some a → fl[i + 1]? = some b → ltI a.1 b.1 = true
  | [] => by simp [riseJ]
  | [a] => by
    simp only [riseJ, true_iff]
    intro i x y h1 h2
    have := (List.getElem?_eq_some_iff.mp h2).1
    simp at this
  | a :: b :: l => by
    have ih := riseJ_iff (fl := b :: l)
    unfold riseJ
    rw [Bool.and_eq_true, ih]
    refine ⟨fun ⟨h1, h2⟩ i x y e1 e2 => ?_, fun h => ⟨h 0 a b rfl rfl, fun i x y e1 e2 => h (i + 1) x y e1 e2⟩⟩
    cases i with
    | zero =>
      cases e1
      cases e2
      exact h1
    | succ i => exact h2 i x y e1 e2
theorem riseJ_at (fl : List (List Int × Int)) : ((rngP 1 (fl.length : Int)).all fun x => ltI (fl.getD (x.i - 1).toNat ([], 0)).1 (fl.getD x.i.toNat ([], 0)).1) = riseJ fl := by
  rw [Bool.eq_iff_iff, riseJ_iff, List.all_eq_true]
  refine ⟨fun h i a b e1 e2 => ?_, fun h x hx => ?_⟩
  · have l2 := (List.getElem?_eq_some_iff.mp e2).1
    have hm : PV.int ((i : Int) + 1) ∈ rngP 1 (fl.length : Int) := by
      unfold rngP
      rw [List.mem_map]
      exact ⟨i, List.mem_range.mpr (by omega), by rw [Int.add_comm]⟩
    have := h _ hm
    have h1 : ((PV.int ((i : Int) + 1)).i - 1).toNat = i := by show ((i : Int) + 1 - 1).toNat = i; omega
    have h2 : (PV.int ((i : Int) + 1)).i.toNat = i + 1 := by show ((i : Int) + 1).toNat = i + 1; omega
    rw [h1, h2, List.getD_eq_getElem?_getD, List.getD_eq_getElem?_getD, e1, e2] at this
    exact this
  · obtain ⟨i, rfl, h0, h1⟩ := rngP_mem hx
    obtain ⟨j, rfl⟩ : ∃ j : Nat, i = (j : Int) + 1 := ⟨(i - 1).toNat, by omega⟩
    have ha : fl[j]? = some fl[j] := List.getElem?_eq_getElem (by omega)
    have hb : fl[j + 1]? = some fl[j + 1] := List.getElem?_eq_getElem (by omega)
    have e1 : ((PV.int ((j : Int) + 1)).i - 1).toNat = j := by show ((j : Int) + 1 - 1).toNat = j; omega
    have e2 : (PV.int ((j : Int) + 1)).i.toNat = j + 1 := by show ((j : Int) + 1).toNat = j + 1; omega
    rw [e1, e2, List.getD_eq_getElem?_getD, List.getD_eq_getElem?_getD, ha, hb]
    exact h j _ _ ha hb
theorem fitsJ_iff {ks : List (Int × Int)} {fl : List (List Int × Int)} (nn : ∀ k, 0 ≤ tally ks k) : fitsJ ks fl = true ↔ ∀ k, used fl k ≤ tally ks k := by
  unfold fitsJ
  rw [List.all_eq_true]
  refine ⟨fun h k => ?_, fun h k _ => decide_eq_true (h k)⟩
  by_cases z : k ∈ keysL (takes fl)
  · exact of_decide_eq_true (h k z)
  · have := tally_none z
    rw [takes_tally] at this
    have := nn k
    omega
set_option maxHeartbeats 0
/-! comprehensions, by what they are over -/
theorem comp_fm {α β : Type} {emb : α → PV} {l : List α} {f : PV → Br.Env → ER (Option PV)} {ρ : Br.Env} (emb' : β → PV) (h : α → Option β) (H : ∀ k ∈ l, f (emb k) ρ = .ok ((h k).map emb') ρ) : compL f (l.map emb) ρ = .ok ((l.filterMap h).map emb') ρ := by
  induction l with
  | nil => rfl
  | cons x l ih =>
    have h1 := H x (by simp)
    have h2 := ih fun k hk => H k (by simp [hk])
    rw [List.map_cons]
    unfold compL
    rw [h1, List.filterMap_cons]
    cases h x with
    | none => exact h2
    | some y =>
      dsimp only [Option.map_some]
      rw [h2]
      rfl
theorem comp_mp {α β : Type} {emb : α → PV} {l : List α} {f : PV → Br.Env → ER (Option PV)} {ρ : Br.Env} (emb' : β → PV) (h : α → β) (H : ∀ k ∈ l, f (emb k) ρ = .ok (some (emb' (h k))) ρ) : compL f (l.map emb) ρ = .ok ((l.map h).map emb') ρ := by
  have := comp_fm (f := f) emb' (fun x => some (h x)) H
  rw [this, List.filterMap_eq_map']
theorem comp_fl {α : Type} {emb : α → PV} {l : List α} {f : PV → Br.Env → ER (Option PV)} {ρ : Br.Env} (t : α → Bool) (H : ∀ k ∈ l, f (emb k) ρ = .ok (if t k = true then some (emb k) else none) ρ) : compL f (l.map emb) ρ = .ok ((l.filter t).map emb) ρ := by
  have := comp_fm (f := f) (ρ := ρ) (l := l) emb (fun x => if t x = true then some x else none) fun k hk => by
    rw [H k hk]
    split <;> rfl
  rw [this]
  congr 1
  have e : ∀ l : List α, l.filterMap (fun x => if t x = true then some x else none) = l.filter t := fun l => by
    induction l with
    | nil => rfl
    | cons x l ih =>
      rw [List.filterMap_cons, List.filter_cons, ih]
      by_cases h : t x = true
      · rw [if_pos h, if_pos h]
      · rw [if_neg h, if_neg h]
  rw [e]
/-- .. that tells truths -/
theorem comp_bl {α : Type} {emb : α → PV} {l : List α} {f : PV → Br.Env → ER (Option PV)} {ρ : Br.Env} (t : α → Bool) (H : ∀ k ∈ l, f (emb k) ρ = .ok (some (.bl (t k))) ρ) : compL f (l.map emb) ρ = .ok ((l.map t).map .bl) ρ := comp_mp .bl t H
/-- .. of ints -/
theorem comp_ii {α : Type} {emb : α → PV} {l : List α} {f : PV → Br.Env → ER (Option PV)} {ρ : Br.Env} (t : α → Int) (H : ∀ k ∈ l, f (emb k) ρ = .ok (some (.int (t k))) ρ) : compL f (l.map emb) ρ = .ok ((l.map t).map .int) ρ := comp_mp .int t H
theorem allLP_bls (l : List Bool) : allLP [.lst (l.map .bl)] = some (.bl (l.all id)) := by
  simp [allLP]
set_option maxHeartbeats 0
def bd_law_due_4e0e_1 : List Br.St := [.setIx 4 (.var 8) (.app .sub [.val (.mth .dget (.ref 4) [.ref 8, .val (.cst (.int 0))]), .ref 7])]
def bd_law_due_4e0e_2 : List Br.St := [.ite (.or (.not (.e (.chain .le .le (.cst (.int 1)) (.app .len [.ref 6]) (.cst (.int 100))))) (.or (.e (.app .ne [.val (.app .list1 [.ref 6]), .val (.app .sortedD [.ref 6])])) (.or (.e (.app .lt [.val (.app .idx [.ref 6, .val (.cst (.int 0))]), .val (.cst (.int 1))])) (.e (.app .gt [.val (.app .idx [.ref 6, .val (.app .neg [.val (.cst (.int 1))])]), .val (.app .pow [.val (.cst (.int 10)), .val (.cst (.int 12))])]))))) [.ret (.cst (.bl false))] [], .ite (.or (.e (.app .lt [.val (.app .sum [.ref 6]), .ref 2])) (.or (.e (.app .lt [.ref 7, .val (.cst (.int 1))])) (.not (.e (.app .lt [.ref 5, .ref 6]))))) [.ret (.cst (.bl false))] [], .set 5 (.var 6), .for (.seq (.var 6)) (.one 8) bd_law_due_4e0e_1]
def el_law_due_4e0e_1 : Br.Ex := .app .ge [.ref 9, .val (.cst (.int 0))]
def ir_law_due_4e0e : Fn := ⟨10, 2, [0, 1], [.unp (.tup [.one 2, .one 3]) (.var 0), .set 4 (.app .dict1 [.ref 3]), .set 5 (.xtup []), .for (.seq (.var 1)) (.tup [.one 6, .one 7]) bd_law_due_4e0e_2, .ret (.app .allL [.val (.comp (.seq (.app .valsL [.ref 4])) (.one 9) [9] [] el_law_due_4e0e_1)])]⟩
def ph_law_due_4e0e : Nat → List LV → CR := fun j => match j with | _ => fun _ => .st
def g_law_due_4e0e : List LV → CR := runFn ph_law_due_4e0e 1000000 ir_law_due_4e0e
-- use: U_ct U_cts U_pool U_list U_jdg U_xd U_comp U_idx
theorem due_in {n t : Int} {p kv lotv lastv : PV} {ks : List (Int × Int)} : ∀ (l : List Int) (c : List (Int × Int)) (l_size : Option LV), c.length + l.length < 1000000 →
    ∃ m_size, forL (bindS (exSs ph_law_due_4e0e 1000000 bd_law_due_4e0e_1) (.one 8)) (l.map .int) [some (.fro (hp n ks)), some (.fro (p)), some (.fro (.int (n))), some (.fro (kv)), some (.own (dk c)), some (.fro (lastv)), some (.fro (lotv)), some (.fro (.int (t))), (l_size), none] = .nx [some (.fro (hp n ks)), some (.fro (p)), some (.fro (.int (n))), some (.fro (kv)), some (.own (dk (addAll c (l.map fun x => (x, -t))))), some (.fro (lastv)), some (.fro (lotv)), some (.fro (.int (t))), (m_size), none]
  | [], c, s, _ => ⟨s, rfl⟩
  | x :: l, c, s, hc => by
    rw [List.length_cons] at hc
    have hl := len_add c x (-t)
    obtain ⟨m, e⟩ := due_in (n := n) (t := t) (p := p) (kv := kv) (lotv := lotv) (lastv := lastv) (ks := ks) l (addL c x (-t)) (some (.fro (.int x))) (by omega)
    refine ⟨m, ?_⟩
    have hpt := dk_put c x (tally c x - t) (by omega)
    have ea : putL x (tally c x - t) c = addL c x (-t) := by unfold addL; rw [Int.sub_eq_add_neg]
    rw [ea] at hpt
    rw [List.map_cons]
    unfold forL
    have E : bindS (exSs ph_law_due_4e0e 1000000 bd_law_due_4e0e_1) (.one 8) (.int x) [some (.fro (hp n ks)), some (.fro (p)), some (.fro (.int (n))), some (.fro (kv)), some (.own (dk c)), some (.fro (lastv)), some (.fro (lotv)), some (.fro (.int (t))), (s), none] = .nx [some (.fro (hp n ks)), some (.fro (p)), some (.fro (.int (n))), some (.fro (kv)), some (.own (dk (addL c x (-t)))), some (.fro (lastv)), some (.fro (lotv)), some (.fro (.int (t))), some (.fro (.int (x))), none] := by
      simp -implicitDefEqProofs [evx, bd_law_due_4e0e_1, -dgetP, dget_dk, -setIxP, hpt]
    rw [E]
    exact e
theorem neLst_ints (a b : List Int) : neOP [.lst (a.map .int), .lst (b.map .int)] = some (.bl (!decide (a = b))) := by
  simp -implicitDefEqProofs [evx]
theorem due_round {n : Int} {p kv : PV} {ks : List (Int × Int)} {last : List Int} {c : List (Int × Int)} {q : List Int × Int} (hL : q.1.length ≤ 1000) (hc : c.length + 1000 < 1000000) (l_lot l_times l_size : Option LV) :
    ∃ m_lot m_times m_size, bindS (exSs ph_law_due_4e0e 1000000 bd_law_due_4e0e_2) (.tup [.one 6, .one 7]) (flX q) [some (.fro (hp n ks)), some (.fro (p)), some (.fro (.int (n))), some (.fro (kv)), some (.own (dk c)), some (.fro (xI last)), (l_lot), (l_times), (l_size), none] =
      (if (goodJ n q && ltI last q.1) = true then .nx [some (.fro (hp n ks)), some (.fro (p)), some (.fro (.int (n))), some (.fro (kv)), some (.own (dk (addAll c (q.1.map fun x => (x, -q.2))))), some (.fro (xI q.1)), (m_lot), (m_times), (m_size), none]
       else .rt (.fro (.bl false)) [some (.fro (hp n ks)), some (.fro (p)), some (.fro (.int (n))), some (.fro (kv)), some (.own (dk c)), some (.fro (xI last)), (m_lot), (m_times), (m_size), none]) := by
  obtain ⟨L, t⟩ := q
  dsimp only at hL ⊢
  have hl6 : L.length ≤ 1000000 := by omega
  have hsd : sortedDP [.tup (L.map .int)] = some (.lst ((sortI L).map .int)) := by
    have e : sortedP [.tup (L.map .int)] = some (.lst ((sortI L).map .int)) := by
      show (intsOf (L.map .int)).map (fun ns => PV.lst ((sortI ns).map .int)) = _
      rw [intsOf_map, Option.map_some]
    unfold sortedDP
    rw [e]
  have s6 : (sortI L).length ≤ 1000000 := by rw [sortI_len]; omega
  have eqs := neLst_ints L (sortI L)
  have ng : goodJ n (L, t) = false → ∀ (X Y : SO), (if (goodJ n (L, t) && ltI last L) = true then X else Y) = Y := fun h X Y => by rw [h]; rfl
  by_cases c1 : 1 ≤ L.length
  rotate_left 1
  · have c1' : ¬ (1 : Int) ≤ L.length := by omega
    have hg : goodJ n (L, t) = false := by unfold goodJ lotJ; simp [c1]
    refine ⟨some (.fro (xI L)), some (.fro (.int t)), l_size, ?_⟩
    rw [ng hg]
    simp -implicitDefEqProofs [evx, bd_law_due_4e0e_2, flX, c1']
  by_cases c2 : L.length ≤ 100
  rotate_left 1
  · have c2' : ¬ (L.length : Int) ≤ 100 := by omega
    have c1' : (1 : Int) ≤ L.length := by omega
    have hg : goodJ n (L, t) = false := by unfold goodJ lotJ; simp [c2]
    refine ⟨some (.fro (xI L)), some (.fro (.int t)), l_size, ?_⟩
    rw [ng hg]
    simp -implicitDefEqProofs [evx, bd_law_due_4e0e_2, flX, c1', c2']
  have c1' : (1 : Int) ≤ L.length := by omega
  have c2' : (L.length : Int) ≤ 100 := by omega
  by_cases cs : sortI L = L
  rotate_left 1
  · have hg : goodJ n (L, t) = false := by unfold goodJ lotJ; simp [cs]
    have cs' : decide (L = sortI L) = false := decide_eq_false fun z => cs z.symm
    rw [cs'] at eqs
    refine ⟨some (.fro (xI L)), some (.fro (.int t)), l_size, ?_⟩
    rw [ng hg]
    simp -implicitDefEqProofs [evx, bd_law_due_4e0e_2, flX, c1', c2', hl6, -sortedDP, hsd, s6, -neOP, eqs]
  rw [cs] at hsd eqs
  rw [decide_eq_true rfl] at eqs
  have hne : L ≠ [] := fun z => by rw [z] at c1; simp at c1
  have a0 : L2.atI (L.map PV.int) 0 = some (.int (L.head hne)) := by
    cases L with
    | nil => exact absurd rfl hne
    | cons x l => exact atI_n _ 0 _ rfl
  have a1 : L2.atI (L.map PV.int) (-1) = some (.int (L.getLast hne)) := by
    unfold L2.atI
    have hx : L2.ixN (L.map PV.int).length (-1) = some (L.length - 1) := by
      unfold L2.ixN
      simp
      omega
    rw [hx]
    simp [List.getLast_eq_getElem]
  have hsrt := sortI_id.mp cs
  by_cases r1 : L.head hne < 1
  · have hg : goodJ n (L, t) = false := by
      unfold goodJ lotJ
      have : L.all (fun x => decide (1 ≤ x ∧ x ≤ 1000000000000)) = false := by
        rw [List.all_eq_false]
        exact ⟨L.head hne, List.head_mem hne, by simp; omega⟩
      rw [this]
      simp
    refine ⟨some (.fro (xI L)), some (.fro (.int t)), l_size, ?_⟩
    rw [ng hg]
    simp -implicitDefEqProofs [evx, bd_law_due_4e0e_2, flX, c1', c2', hl6, -sortedDP, hsd, s6, -neOP, eqs, a0, r1]
  by_cases r2 : 1000000000000 < L.getLast hne
  · have hg : goodJ n (L, t) = false := by
      unfold goodJ lotJ
      have : L.all (fun x => decide (1 ≤ x ∧ x ≤ 1000000000000)) = false := by
        rw [List.all_eq_false]
        exact ⟨L.getLast hne, List.getLast_mem hne, by simp; omega⟩
      rw [this]
      simp
    refine ⟨some (.fro (xI L)), some (.fro (.int t)), l_size, ?_⟩
    rw [ng hg]
    simp -implicitDefEqProofs [evx, bd_law_due_4e0e_2, flX, c1', c2', hl6, -sortedDP, hsd, s6, -neOP, eqs, a0, a1, r1, r2]
  have hr : lotJ L = true := lotJ_iff.mpr ⟨c1, c2, fun x hx => by
    have h1 : L.head hne ≤ x := by
      cases L with
      | nil => exact absurd rfl hne
      | cons y l =>
        rcases List.mem_cons.mp hx with rfl | hx
        · exact Int.le_refl _
        · exact List.rel_of_pairwise_cons hsrt hx
    have h2 : x ≤ L.getLast hne := by
      obtain ⟨i, hi, rfl⟩ := List.getElem_of_mem hx
      rw [List.getLast_eq_getElem]
      rcases Nat.lt_or_ge i (L.length - 1) with h | h
      · exact List.pairwise_iff_getElem.mp hsrt i (L.length - 1) hi (by omega) h
      · have e : i = L.length - 1 := by omega
        subst e
        exact Int.le_refl _
    omega, hsrt⟩
  have e4 := ltOP_ints last L
  by_cases r3 : L.sum < n
  · have hg : goodJ n (L, t) = false := by unfold goodJ; simp; omega
    refine ⟨some (.fro (xI L)), some (.fro (.int t)), l_size, ?_⟩
    rw [ng hg]
    simp -implicitDefEqProofs [evx, bd_law_due_4e0e_2, flX, c1', c2', hl6, -sortedDP, hsd, s6, -neOP, eqs, a0, a1, r1, r2, r3]
  by_cases r4 : t < 1
  · have hg : goodJ n (L, t) = false := by unfold goodJ; simp; omega
    refine ⟨some (.fro (xI L)), some (.fro (.int t)), l_size, ?_⟩
    rw [ng hg]
    simp -implicitDefEqProofs [evx, bd_law_due_4e0e_2, flX, c1', c2', hl6, -sortedDP, hsd, s6, -neOP, eqs, a0, a1, r1, r2, r3, r4]
  have hg : goodJ n (L, t) = true := by
    unfold goodJ
    rw [hr, decide_eq_true (show n ≤ (L, t).1.sum by dsimp only; omega), decide_eq_true (show 1 ≤ (L, t).2 by dsimp only; omega)]
    rfl
  cases hlt : ltI last L with
  | false =>
    rw [hlt] at e4
    refine ⟨some (.fro (xI L)), some (.fro (.int t)), l_size, ?_⟩
    rw [hg]
    simp -implicitDefEqProofs [evx, bd_law_due_4e0e_2, flX, c1', c2', hl6, -sortedDP, hsd, s6, -neOP, eqs, a0, a1, r1, r2, r3, r4, -ltOP, e4]
  | true =>
    rw [hlt] at e4
    obtain ⟨m, e⟩ := due_in (n := n) (t := t) (p := p) (kv := kv) (lotv := xI L) (lastv := xI L) (ks := ks) L c l_size (by omega)
    refine ⟨some (.fro (xI L)), some (.fro (.int t)), m, ?_⟩
    rw [hg]
    simp -implicitDefEqProofs [evx, bd_law_due_4e0e_2, flX, c1', c2', hl6, -sortedDP, hsd, s6, -neOP, eqs, a0, a1, r1, r2, r3, r4, -ltOP, e4, e]
def chainJ (n : Int) : List Int → List (List Int × Int) → Bool
  | _, [] => true
  | last, q :: fl => goodJ n q && ltI last q.1 && chainJ n q.1 fl
theorem chainJ_cons (n : Int) (last : List Int) (q : List Int × Int) (fl : List (List Int × Int)) : chainJ n last (q :: fl) = (goodJ n q && ltI last q.1 && chainJ n q.1 fl) := by rw [chainJ]
def takeJ (c : List (Int × Int)) (fl : List (List Int × Int)) : List (Int × Int) := fl.foldl (fun c q => addAll c (q.1.map fun x => (x, -q.2))) c
theorem due_loop {n : Int} {p kv : PV} {ks : List (Int × Int)} : ∀ (fl : List (List Int × Int)) (last : List Int) (c : List (Int × Int)) (l_lot l_times l_size : Option LV), (∀ q ∈ fl, q.1.length ≤ 1000) → c.length + 1000 * fl.length + 1000 < 1000000 →
    ∃ c' last' m_lot m_times m_size, forL (bindS (exSs ph_law_due_4e0e 1000000 bd_law_due_4e0e_2) (.tup [.one 6, .one 7])) (fl.map flX) [some (.fro (hp n ks)), some (.fro (p)), some (.fro (.int (n))), some (.fro (kv)), some (.own (dk c)), some (.fro (xI last)), (l_lot), (l_times), (l_size), none] =
      (if chainJ n last fl = true then .nx [some (.fro (hp n ks)), some (.fro (p)), some (.fro (.int (n))), some (.fro (kv)), some (.own (dk (takeJ c fl))), some (.fro (xI last')), (m_lot), (m_times), (m_size), none]
       else .rt (.fro (.bl false)) [some (.fro (hp n ks)), some (.fro (p)), some (.fro (.int (n))), some (.fro (kv)), some (.own (dk c')), some (.fro (xI last')), (m_lot), (m_times), (m_size), none])
  | [], last, c, a, b, d, _, _ => ⟨c, last, a, b, d, rfl⟩
  | q :: fl, last, c, a, b, d, h, hc => by
    rw [List.length_cons] at hc
    have hq := h q (by simp)
    obtain ⟨m1, m2, m3, e⟩ := due_round (n := n) (p := p) (kv := kv) (ks := ks) (last := last) (c := c) (q := q) hq (by omega) a b d
    rw [List.map_cons]
    unfold forL
    rw [e]
    cases g : goodJ n q && ltI last q.1 with
    | false =>
      refine ⟨c, last, m1, m2, m3, ?_⟩
      rw [chainJ_cons, g]
      rfl
    | true =>
      have hl := len_all (q.1.map fun x => (x, -q.2)) c
      rw [List.length_map] at hl
      obtain ⟨c', last', m4, m5, m6, e2⟩ := due_loop (n := n) (p := p) (kv := kv) (ks := ks) fl q.1 (addAll c (q.1.map fun x => (x, -q.2))) m1 m2 m3 (fun r hr => h r (by simp [hr])) (by omega)
      refine ⟨c', last', m4, m5, m6, ?_⟩
      rw [if_pos rfl]
      dsimp only
      rw [e2]
      rw [chainJ_cons, g, Bool.true_and]
      rfl
theorem chainJ_eq {n : Int} : ∀ (fl : List (List Int × Int)) (last : List Int), chainJ n last fl = (fl.all (goodJ n) && riseJ ((last, 1) :: fl))
  | [], last => rfl
  | q :: fl, last => by
    rw [chainJ_cons, chainJ_eq fl q.1, List.all_cons]
    have e : riseJ ((last, 1) :: q :: fl) = (ltI last q.1 && riseJ (q :: fl)) := by rw [riseJ]
    have e2 : riseJ ((q.1, 1) :: fl) = riseJ (q :: fl) := by
      cases fl with
      | nil => rfl
      | cons r fl => rw [riseJ, riseJ]
    rw [e, e2]
    cases goodJ n q <;> cases ltI last q.1 <;> cases fl.all (goodJ n) <;> cases riseJ (q :: fl) <;> rfl
theorem chainJ_nil {n : Int} (fl : List (List Int × Int)) : chainJ n [] fl = (fl.all (goodJ n) && riseJ fl) := by
  rw [chainJ_eq]
  cases fl with
  | nil => rfl
  | cons q fl =>
    rw [List.all_cons]
    cases g : goodJ n q with
    | false => rfl
    | true =>
      have e : riseJ (([], 1) :: q :: fl) = (ltI [] q.1 && riseJ (q :: fl)) := by rw [riseJ]
      have : ltI [] q.1 = true := by
        have := (goodJ_iff.mp g).1.1
        cases h : q.1 with
        | nil => rw [h] at this; simp at this
        | cons x l => rfl
      simp only [e, this, Bool.true_and]
theorem takeJ_tally : ∀ (fl : List (List Int × Int)) (c : List (Int × Int)) (k : Int), tally (takeJ c fl) k = tally c k - used fl k
  | [], c, k => by
    rw [used_nil]
    show tally c k = _
    omega
  | q :: fl, c, k => by
    have : takeJ c (q :: fl) = takeJ (addAll c (q.1.map fun x => (x, -q.2))) fl := rfl
    rw [this, takeJ_tally, tally_all, tot_const, used_cons, Int.mul_neg]
    omega
theorem takeJ_nd : ∀ (fl : List (List Int × Int)) {c : List (Int × Int)}, (keysL c).Nodup → (keysL (takeJ c fl)).Nodup
  | [], c, h => h
  | q :: fl, c, h => takeJ_nd fl (nd_all _ h)
theorem takeJ_len : ∀ (fl : List (List Int × Int)) (c : List (Int × Int)), (∀ q ∈ fl, q.1.length ≤ 1000) → (takeJ c fl).length ≤ c.length + 1000 * fl.length
  | [], c, h => by simp [takeJ]
  | q :: fl, c, h => by
    have : takeJ c (q :: fl) = takeJ (addAll c (q.1.map fun x => (x, -q.2))) fl := rfl
    rw [this, List.length_cons]
    have h1 := takeJ_len fl (addAll c (q.1.map fun x => (x, -q.2))) fun r hr => h r (by simp [hr])
    have h2 := len_all (q.1.map fun x => (x, -q.2)) c
    rw [List.length_map] at h2
    have := h q (by simp)
    omega
theorem due_4e0e {n : Int} {ks : List (Int × Int)} {fl : List (List Int × Int)} {p : PV} (hp' : FlX fl p) (hk : Kinds ks) (hks : ks.length < 64) (hfl : fl.length ≤ 800) (hb : ∀ q ∈ fl, q.1.length ≤ 1000 ∧ q.2.natAbs < 18446744073709551616) :
    g_law_due_4e0e [.fro (hp n ks), .fro p] = .ok (.fro (.bl (judgeJ n ks fl))) [.fro (hp n ks), .fro p] := by
  have nn : ∀ k, 0 ≤ tally ks k := fun k => by
    by_cases z : k ∈ keysL ks
    · obtain ⟨q, hq, rfl⟩ := List.mem_map.mp z
      rw [tally_mem hk.nd hq]
      have := hk.2 q hq
      omega
    · rw [tally_none z]; omega
  have hd := dict_prs hk.nd (by omega)
  have hfl6 : fl.length ≤ 1000000 := by omega
  obtain ⟨c', last', m1, m2, m3, e⟩ := due_loop (n := n) (p := p) (kv := .xt (ks.map fun q => .tup [.int q.1, .int q.2])) (ks := ks) fl [] ks none none none (fun q hq => (hb q hq).1) (by omega)
  have hj : judgeJ n ks fl = (chainJ n [] fl && fitsJ ks fl) := by unfold judgeJ; rw [chainJ_nil]
  rw [hj]
  have e0 : xI [] = .xt [] := rfl
  rw [e0] at e
  cases hc : chainJ n [] fl with
  | false =>
    rw [hc, if_neg (by decide)] at e
    rw [Bool.false_and]
    rcases hp' with rfl | rfl | rfl
    all_goals
      (unfold g_law_due_4e0e ir_law_due_4e0e; rw [runFn_eq _ _ _ _ ⟨rfl, by decide, rfl⟩])
      simp -implicitDefEqProofs [evx, hp, -dict1P, hd, hfl6, e]
  | true =>
    rw [hc, if_pos rfl] at e
    rw [Bool.true_and]
    have tl := takeJ_len fl ks fun q hq => (hb q hq).1
    have t6 : (takeJ ks fl).length ≤ 1000000 := by omega
    have nd := takeJ_nd fl hk.nd
    have hf : (takeJ ks fl).all (fun q => decide (0 ≤ q.2)) = fitsJ ks fl := by
      rw [Bool.eq_iff_iff, fitsJ_iff nn, List.all_eq_true]
      refine ⟨fun h k => ?_, fun h q hq => ?_⟩
      · have h1 := takeJ_tally fl ks k
        by_cases z : k ∈ keysL (takeJ ks fl)
        · obtain ⟨q, hq, rfl⟩ := List.mem_map.mp z
          have h2 := tally_mem nd hq
          have := of_decide_eq_true (h q hq)
          omega
        · rw [tally_none z] at h1
          omega
      · have h1 := takeJ_tally fl ks q.1
        have h2 := tally_mem nd hq
        have := h q.1
        exact decide_eq_true (by omega)
    rw [← hf]
    have hcm : ∀ ρ : Br.Env, (∀ q ∈ takeJ ks fl, cF ph_law_due_4e0e (.one 9) [9] [] el_law_due_4e0e_1 (.int q.2) ρ = .ok (some (.bl (decide (0 ≤ q.2)))) ρ) → compL (cF ph_law_due_4e0e (.one 9) [9] [] el_law_due_4e0e_1) ((takeJ ks fl).map fun q => .int q.2) ρ = .ok (((takeJ ks fl).map fun q => decide (0 ≤ q.2)).map .bl) ρ := fun ρ h => comp_bl (emb := fun q : Int × Int => PV.int q.2) (fun q => decide (0 ≤ q.2)) h
    have hall := allLP_bls ((takeJ ks fl).map fun q => decide (0 ≤ q.2))
    have ha : ((takeJ ks fl).map fun q => decide (0 ≤ q.2)).all id = (takeJ ks fl).all fun q => decide (0 ≤ q.2) := by rw [List.all_map]; rfl
    rw [ha] at hall
    generalize takeJ ks fl = T at *
    rcases hp' with rfl | rfl | rfl
    all_goals
      (unfold g_law_due_4e0e ir_law_due_4e0e; rw [runFn_eq _ _ _ _ ⟨rfl, by decide, rfl⟩])
      simp -implicitDefEqProofs [evx, hp, -dict1P, hd, hfl6, e, t6, -List.map_map]
      rw [hcm _ fun q hq => by simp -implicitDefEqProofs [evx, el_law_due_4e0e_1]]
      simp -implicitDefEqProofs [evx, -allLP, hall, -List.map_map]
set_option maxHeartbeats 0
def bd_law_folded_928f_1 : List Br.St := [.setIx 2 (.app .mod [.ref 3, .val (.app .len [.ref 2])]) (.app .add [.val (.app .mul [.val (.app .idx [.ref 2, .val (.app .mod [.ref 3, .val (.app .len [.ref 2])])]), .val (.cst (.int 7))]), .ref 4])]
def ir_law_folded_928f : Fn := ⟨5, 2, [0, 1], [.set 2 (.app .mul [.val (.lst [.cst (.int 0)]), .val (.app .min2 [.ref 1, .val (.app .max2 [.val (.cst (.int 1)), .val (.app .len [.ref 0])])])]), .for (.enum (.var 0)) (.tup [.one 3, .one 4]) bd_law_folded_928f_1, .retV 2]⟩
def ph_law_folded_928f : Nat → List LV → CR := fun j => match j with | _ => fun _ => .st
def g_law_folded_928f : List LV → CR := runFn ph_law_folded_928f 1000000 ir_law_folded_928f
-- use: U_list U_idx
theorem folded_put {L : List Int} {x : Int} {v : Int} (h0 : 0 ≤ x) (h1 : x < L.length) : setIxP (.own (.lst (L.map .int))) (.int x) (.int v) = some (.own (.lst ((L.set x.toNat v).map .int))) := by
  obtain ⟨j, rfl⟩ := Int.eq_ofNat_of_zero_le h0
  have e : L2.ixN (L.map PV.int).length (j : Int) = some j := by
    rw [List.length_map]
    unfold L2.ixN
    rw [if_pos (by omega), if_pos (by omega)]
    simp
  simp only [setIxP, e, Option.map_some, List.map_set]
  rfl
theorem enumF_at : ∀ (ns : List Int) (k i : Nat) (x : PV), (enumF k (ns.map .int))[i]? = some x → ∃ c : Int, x = .tup [.int ((k + i : Nat) : Int), .int c]
  | [], k, i, x, h => by simp [enumF] at h
  | n :: ns, k, 0, x, h => by
    simp [enumF] at h
    exact ⟨n, by rw [← h]; rfl⟩
  | n :: ns, k, i + 1, x, h => by
    simp [enumF] at h
    obtain ⟨c, e⟩ := enumF_at ns (k + 1) i x h
    exact ⟨c, by rw [e, show k + 1 + i = k + (i + 1) by omega]⟩
theorem folded_928f {ns : List Int} {m : Int} (hn : ns.length ≤ 100000) (hm : 1 ≤ m) (hm2 : m ≤ 100) : ∃ L : List Int, 1 ≤ L.length ∧ (L.length : Int) ≤ m ∧ g_law_folded_928f [.fro (.lst (ns.map .int)), .fro (.int m)] = .ok (.own (.lst (L.map .int))) [.fro (.lst (ns.map .int)), .fro (.int m)] := by
  obtain ⟨K, hK1, hK2, hK⟩ : ∃ K : Int, 1 ≤ K ∧ K ≤ m ∧ (if (if 1 < (ns.length : Int) then (ns.length : Int) else 1) < m then (if 1 < (ns.length : Int) then (ns.length : Int) else 1) else m) = K := ⟨_, by split <;> (try split) <;> omega, by split <;> (try split) <;> omega, rfl⟩
  have hK3 : K ≤ 1000000 := by omega
  have hK4 : 0 ≤ K := by omega
  (unfold g_law_folded_928f ir_law_folded_928f; rw [runFn_eq _ _ _ _ ⟨rfl, by decide, rfl⟩])
  simp -implicitDefEqProofs [evx, hK, hK3, hK4]
  obtain ⟨ρ, e1, L, a, b, hL, rfl⟩ := forL_inv (f := bindS (exSs ph_law_folded_928f 1000000 bd_law_folded_928f_1) (.tup [.one 3, .one 4])) (xs := enumP (ns.map .int)) (ρ := [some (.fro (.lst (ns.map .int))), some (.fro (.int m)), some (.own (.lst (List.replicate K.toNat (.int 0)))), none, none])
    (fun i ρ => ∃ (L : List Int) (a b : Option LV), L.length = K.toNat ∧ ρ = [some (.fro (.lst (ns.map .int))), some (.fro (.int m)), some (.own (.lst (L.map .int))), a, b])
    ⟨List.replicate K.toNat 0, none, none, by simp, by simp⟩
    (fun i x ρ hx hi => by
      obtain ⟨L, a, b, hL, rfl⟩ := hi
      obtain ⟨c, rfl⟩ := enumF_at ns 0 i x hx
      have hlK : (L.length : Int) = K := by omega
      have r0 := Int.emod_nonneg ((0 + i : Nat) : Int) (show K ≠ 0 by omega)
      have r1 := Int.emod_lt_of_pos ((0 + i : Nat) : Int) (show 0 < K by omega)
      generalize ((0 + i : Nat) : Int) = w at r0 r1
      obtain ⟨z, _, ez⟩ := atI_int (l := L) (x := w % K) r0 (by omega)
      have ep := folded_put (L := L) (x := w % K) (v := z * 7 + c) r0 (by omega)
      have hK0 : 0 < K := by omega
      refine ⟨[some (.fro (.lst (ns.map .int))), some (.fro (.int m)), some (.own (.lst ((L.set (w % K).toNat (z * 7 + c)).map .int))), some (.fro (.int w)), some (.fro (.int c))], .inl ?_, _, _, _, by rw [List.length_set]; exact hL, rfl⟩
      simp -implicitDefEqProofs [evx, bd_law_folded_928f_1, hlK, hK0, ez, -setIxP, ep])
  rw [e1]
  exact ⟨L, by omega, by omega, by simp -implicitDefEqProofs [evx]⟩
set_option maxHeartbeats 0
def bd_law_less_8ef1_1 : List Br.St := [.setIx 3 (.var 4) (.app .sub [.val (.mth .dget (.ref 3) [.ref 4, .val (.cst (.int 0))]), .ref 2]), .ite (.e (.app .lt [.val (.app .idx [.ref 3, .ref 4]), .val (.cst (.int 0))])) [.ret (.cst .non)] []]
def el_law_less_8ef1_1 : Br.Ex := .tup [.var 4, .app .idx [.ref 3, .ref 4]]
def cd_law_less_8ef1_1 : List Br.Tst := [.e (.app .gt [.val (.app .idx [.ref 3, .ref 4]), .val (.cst (.int 0))])]
def ir_law_less_8ef1 : Fn := ⟨5, 3, [0, 1, 2], [.set 3 (.app .dict1 [.val (.app .idx [.ref 0, .val (.cst (.int 1))])]), .for (.seq (.var 1)) (.one 4) bd_law_less_8ef1_1, .ret (.tup [.app .idx [.ref 0, .val (.cst (.int 0))], .app .tupleX [.val (.comp (.seq (.app .sortedD [.ref 3])) (.one 4) [4] cd_law_less_8ef1_1 el_law_less_8ef1_1)]])]⟩
def ph_law_less_8ef1 : Nat → List LV → CR := fun j => match j with | _ => fun _ => .st
def g_law_less_8ef1 : List LV → CR := runFn ph_law_less_8ef1 1000000 ir_law_less_8ef1
-- use: U_ct U_cts U_pool U_list
theorem less_loop {p : PV} {t : Int} {lotv : PV} : ∀ (l : List Int) (c : List (Int × Int)) (l_size : Option LV), (keysL c).Nodup → (∀ k ∈ l, (l.count k : Int) * t ≤ tally c k) → 0 ≤ t → c.length + l.length < 1000000 →
    ∃ m_size, forL (bindS (exSs ph_law_less_8ef1 1000000 bd_law_less_8ef1_1) (.one 4)) (l.map .int) [some (.fro (p)), some (.fro (lotv)), some (.fro (.int (t))), some (.own (dk c)), (l_size)] = .nx [some (.fro (p)), some (.fro (lotv)), some (.fro (.int (t))), some (.own (dk (addAll c (l.map fun x => (x, -t))))), (m_size)]
  | [], c, s, _, _, _, _ => ⟨s, rfl⟩
  | x :: l, c, s, nd, h, ht, hc => by
    rw [List.length_cons] at hc
    have hl := len_add c x (-t)
    have hx := h x (by simp)
    rw [List.count_cons_self] at hx
    have hge : t ≤ tally c x := by
      have h0 : 0 ≤ (l.count x : Int) * t := Int.mul_nonneg (by omega) ht
      have : ((l.count x + 1 : Nat) : Int) * t = (l.count x : Int) * t + t := by
        rw [show ((l.count x + 1 : Nat) : Int) = (l.count x : Int) + 1 by omega, Int.add_mul, Int.one_mul]
      omega
    obtain ⟨m, e⟩ := less_loop (p := p) (t := t) (lotv := lotv) l (addL c x (-t)) (some (.fro (.int x))) (nd_add nd) (fun k hk => by
      rw [tally_add]
      have hk2 := h k (by simp [hk])
      by_cases z : k = x
      · subst z
        rw [List.count_cons_self] at hk2
        rw [if_pos rfl]
        have : ((l.count k + 1 : Nat) : Int) * t = (l.count k : Int) * t + t := by
          rw [show ((l.count k + 1 : Nat) : Int) = (l.count k : Int) + 1 by omega, Int.add_mul, Int.one_mul]
        omega
      · rw [if_neg z]
        rw [List.count_cons_of_ne (fun w => z w.symm)] at hk2
        omega) ht (by omega)
    refine ⟨m, ?_⟩
    have hp := dk_put c x (tally c x - t) (by omega)
    have hm : x ∈ keysL (putL x (tally c x - t) c) := (putL_keys x _ x c).mpr (.inl rfl)
    have hi2 := idx_dk hm
    rw [tally_put, if_pos rfl] at hi2
    have ea : putL x (tally c x - t) c = addL c x (-t) := by unfold addL; rw [Int.sub_eq_add_neg]
    rw [ea] at hi2 hp
    have z2 : ¬ tally c x - t < 0 := by omega
    rw [List.map_cons]
    unfold forL
    have E : bindS (exSs ph_law_less_8ef1 1000000 bd_law_less_8ef1_1) (.one 4) (.int x) [some (.fro (p)), some (.fro (lotv)), some (.fro (.int (t))), some (.own (dk c)), (s)] = .nx [some (.fro (p)), some (.fro (lotv)), some (.fro (.int (t))), some (.own (dk (addL c x (-t)))), some (.fro (.int (x)))] := by
      simp -implicitDefEqProofs [evx, bd_law_less_8ef1_1, -dgetP, dget_dk, -setIxP, hp, -idxP, hi2, z2]
    rw [E]
    exact e
/-- known lots -/
theorem lessx_8ef1 {n t : Int} {ks : List (Int × Int)} {L : List Int} (nk : (keysL ks).Nodup) (hks : ks.length < 64) (hsub : ∀ k ∈ L, k ∈ keysL ks) (hL : L.length ≤ 1000) (ht : 0 ≤ t) (h : ∀ k ∈ L, (L.count k : Int) * t ≤ tally ks k) :
    g_law_less_8ef1 [.fro (hp n ks), .fro (.xt (L.map .int)), .fro (.int t)] = .ok (.fro (hp n (canon (addAll ks (L.map fun x => (x, -t)))))) [.fro (hp n ks), .fro (.xt (L.map .int)), .fro (.int t)] := by
  have hd := dict_prs nk (by omega)
  obtain ⟨m, e⟩ := less_loop (p := hp n ks) (t := t) (lotv := .xt (L.map .int)) L ks none nk h ht (by omega)
  have nd : (keysL (addAll ks (L.map fun x => (x, -t)))).Nodup := nd_all _ nk
  have hlen : (addAll ks (L.map fun x => (x, -t))).length < 64 := by
    rw [len_all_old (fun k hk => by
      unfold keysL at hk
      rw [List.map_map] at hk
      obtain ⟨x, hx, rfl⟩ := List.mem_map.mp hk
      exact hsub x hx)]
    exact hks
  generalize addAll ks (L.map fun x => (x, -t)) = c at e nd hlen
  have hslen : (sortI (keysL c)).length ≤ 1000000 := by
    rw [(sortI_perm (keysL c)).length_eq]; unfold keysL; simp; omega
  have hs : sortedDP [dk c] = some (.lst ((sortI (keysL c)).map .int)) := by
    have e0 : sortedP [dk c] = if (c.map fun q => (Sum.inl q.1 : Int ⊕ PySem.Str)).length < 64 then (intKeys (c.map fun q => (Sum.inl q.1 : Int ⊕ PySem.Str))).map fun ns => .lst ((sortI ns).map .int) else none := rfl
    have e1 : sortedP [dk c] = some (.lst ((sortI (keysL c)).map .int)) := by rw [e0, List.length_map, if_pos hlen, intKeys_map]; rfl
    unfold sortedDP
    rw [e1]
  have hL6 : L.length ≤ 1000000 := by omega
  have key : ∀ ρ : Br.Env, (∀ x ∈ (sortI (keysL c)).map PV.int, cF ph_law_less_8ef1 (.one 4) [4] cd_law_less_8ef1_1 el_law_less_8ef1_1 x ρ = .ok (ctP c x) ρ) → compL (cF ph_law_less_8ef1 (.one 4) [4] cd_law_less_8ef1_1 el_law_less_8ef1_1) ((sortI (keysL c)).map .int) ρ = .ok ((canon c).map fun q => PV.tup [.int q.1, .int q.2]) ρ := fun ρ h => by
    rw [compL_fmap (h := ctP c) h, ctP_all]
    rfl
  (unfold g_law_less_8ef1 ir_law_less_8ef1; rw [runFn_eq _ _ _ _ ⟨rfl, by decide, rfl⟩])
  simp -implicitDefEqProofs [evx, -dict1P, hd, e, hL6, -sortedDP, hs, hslen]
  rw [key _ (fun x hx => by
    obtain ⟨k, hk, rfl⟩ := List.mem_map.mp hx
    have hi := idx_dk ((sortI_perm (keysL c)).mem_iff.mp hk)
    by_cases z : 0 < tally c k <;> simp -implicitDefEqProofs [evx, cd_law_less_8ef1_1, el_law_less_8ef1_1, -idxP, hi, z, ctP])]
  simp -implicitDefEqProofs [evx]
set_option maxHeartbeats 0
def ir_law_take_481c : Fn := ⟨4, 2, [0, 1], [.ite (.e (.app .gt [.val (.app .idx [.ref 0, .val (.cst (.int 0))]), .val (.cst (.int 0))])) [.set 2 (.app .mod [.val (.app .idx [.ref 0, .val (.cst (.int 0))]), .ref 1]), .setIx 0 (.cst (.int 0)) (.app .fdiv [.val (.app .idx [.ref 0, .val (.cst (.int 0))]), .ref 1]), .retV 2] [], .setIx 0 (.cst (.int 1)) (.app .add [.val (.app .idx [.ref 0, .val (.cst (.int 1))]), .val (.cst (.int 1))]), .set 3 (.app .mod [.val (.app .add [.val (.app .add [.val (.app .add [.val (.app .idx [.ref 0, .val (.cst (.int 2))]), .val (.app .mul [.val (.app .mul [.val (.cst (.int 977)), .val (.app .idx [.ref 0, .val (.cst (.int 1))])]), .val (.app .idx [.ref 0, .val (.cst (.int 1))])])]), .val (.app .mul [.val (.cst (.int 40693)), .val (.app .idx [.ref 0, .val (.cst (.int 1))])])]), .val (.cst (.int 1))]), .val (.cst (.int 2147483647))]), .set 3 (.app .mod [.val (.app .mul [.val (.app .mod [.val (.app .mul [.ref 3, .ref 3]), .val (.cst (.int 1000000007))]), .val (.cst (.int 48271))]), .val (.cst (.int 998244353))]), .ret (.app .mod [.val (.app .fdiv [.ref 3, .val (.cst (.int 8))]), .ref 1])]⟩
def ph_law_take_481c : Nat → List LV → CR := fun j => match j with | _ => fun _ => .st
def g_law_take_481c : List LV → CR := runFn ph_law_take_481c 1000000 ir_law_take_481c
-- use: U_pot
theorem take_481c {a b c m : Int} (ha : 0 ≤ a) (hb : 0 ≤ b) (hb2 : b ≤ 1000000000000000) (hm : 0 < m) (hl : m ≤ 2 ^ 250) : ∃ q a' b' : Int, 0 ≤ q ∧ q < m ∧ 0 ≤ a' ∧ b ≤ b' ∧ b' ≤ b + 1 ∧ g_law_take_481c [pt a b c, .fro (.int m)] = .ok (.fro (.int q)) [pt a' b' c, .fro (.int m)] := by
  (unfold g_law_take_481c ir_law_take_481c; rw [runFn_eq _ _ _ _ ⟨rfl, by decide, rfl⟩])
  have hml : m.natAbs.log2 < 9000 := log2_lt_9000 (by omega)
  by_cases h : 0 < a
  · exact ⟨a % m, a / m, b, Int.emod_nonneg a (by omega), Int.emod_lt_of_pos a hm, Int.ediv_nonneg ha (by omega), by omega, by omega, by simp -implicitDefEqProofs [evx, hm, hml, h]⟩
  · have e : a = 0 := by omega
    subst e
    have h1 : (b + 1).natAbs < 18446744073709551616 := by omega
    have h2 : ∀ x : Int, (x % 2147483647).natAbs < 18446744073709551616 := fun x => by
      have := Int.emod_nonneg x (show (2147483647 : Int) ≠ 0 by omega)
      have := Int.emod_lt_of_pos x (show (0 : Int) < 2147483647 by omega)
      omega
    have h3 : ∀ x : Int, (x % 1000000007).natAbs < 18446744073709551616 := fun x => by
      have := Int.emod_nonneg x (show (1000000007 : Int) ≠ 0 by omega)
      have := Int.emod_lt_of_pos x (show (0 : Int) < 1000000007 by omega)
      omega
    exact ⟨_ % m, 0, b + 1, Int.emod_nonneg _ (by omega), Int.emod_lt_of_pos _ hm, by omega, by omega, by omega, by simp -implicitDefEqProofs [evx, hm, hml, h1, h2, h3]; rfl⟩
set_option maxHeartbeats 0
def el_counted_heap_7b0d_1 : Br.Ex := .tup [.var 2, .app .idx [.ref 1, .ref 2]]
def cd_counted_heap_7b0d_1 : List Br.Tst := [.e (.app .gt [.val (.app .idx [.ref 1, .ref 2]), .val (.cst (.int 0))])]
def ir_counted_heap_7b0d : Fn := ⟨3, 2, [0, 1], [.ret (.tup [.var 0, .app .tupleX [.val (.comp (.seq (.app .sortedD [.ref 1])) (.one 2) [2] cd_counted_heap_7b0d_1 el_counted_heap_7b0d_1)]])]⟩
def ph_counted_heap_7b0d : Nat → List LV → CR := fun j => match j with | _ => fun _ => .st
def g_counted_heap_7b0d : List LV → CR := runFn ph_counted_heap_7b0d 1000000 ir_counted_heap_7b0d
-- use: U_ct U_cts U_pool
theorem chp_7b0d {c : List (Int × Int)} {n : Int} {l : LV} (h : l = .own (dk c) ∨ l = .fro (dk c)) (nd : (keysL c).Nodup) (hl : c.length < 64) : g_counted_heap_7b0d [.fro (.int n), l] = .ok (.fro (hp n (canon c))) [.fro (.int n), l] := by
  have hlen : (sortI (keysL c)).length ≤ 1000000 := by
    rw [(sortI_perm (keysL c)).length_eq]
    unfold keysL
    simp
    omega
  have hs : sortedP [dk c] = some (.lst ((sortI (keysL c)).map .int)) := by
    have e : sortedP [dk c] = if (c.map fun q => (Sum.inl q.1 : Int ⊕ Str)).length < 64 then (intKeys (c.map fun q => Sum.inl q.1)).map fun ns => .lst ((sortI ns).map .int) else none := rfl
    rw [e, List.length_map, if_pos hl, intKeys_map]
    rfl
  have hsd : sortedDP [dk c] = some (.lst ((sortI (keysL c)).map .int)) := by
    unfold sortedDP
    rw [hs]
  have key : ∀ ρ : Br.Env, (∀ x ∈ (sortI (keysL c)).map PV.int, cF ph_counted_heap_7b0d (.one 2) [2] cd_counted_heap_7b0d_1 el_counted_heap_7b0d_1 x ρ = .ok (ctP c x) ρ) → compL (cF ph_counted_heap_7b0d (.one 2) [2] cd_counted_heap_7b0d_1 el_counted_heap_7b0d_1) ((sortI (keysL c)).map .int) ρ = .ok ((canon c).map fun q => PV.tup [.int q.1, .int q.2]) ρ := fun ρ h => by
    rw [compL_fmap (h := ctP c) h, ctP_all]
    rfl
  have hcl : (canon c).length ≤ 1000000 := by
    have := canon_len c
    omega
  rcases h with rfl | rfl
  all_goals
    (unfold g_counted_heap_7b0d ir_counted_heap_7b0d; rw [runFn_eq _ _ _ _ ⟨rfl, by decide, rfl⟩])
    simp -implicitDefEqProofs [evx, -sortedDP, hsd, hlen]
    rw [key _ (fun x hx => by
      obtain ⟨k, hk, rfl⟩ := List.mem_map.mp hx
      have hk2 := (sortI_perm (keysL c)).mem_iff.mp hk
      have hi := idx_dk hk2
      by_cases z : 0 < tally c k <;> simp -implicitDefEqProofs [evx, cd_counted_heap_7b0d_1, el_counted_heap_7b0d_1, -idxP, hi, z, ctP])]
    simp -implicitDefEqProofs [evx, hcl]
set_option maxHeartbeats 0
def bd_counts_of_e975_1 : List Br.St := [.setIx 1 (.var 2) (.app .add [.val (.mth .dget (.ref 1) [.ref 2, .val (.cst (.int 0))]), .val (.cst (.int 1))])]
def ir_counts_of_e975 : Fn := ⟨3, 1, [0], [.set 1 (.dnew), .for (.seq (.var 0)) (.one 2) bd_counts_of_e975_1, .retV 1]⟩
def ph_counts_of_e975 : Nat → List LV → CR := fun j => match j with | _ => fun _ => .st
def g_counts_of_e975 : List LV → CR := runFn ph_counts_of_e975 1000000 ir_counts_of_e975
-- use: U_cts U_list
/-- a tuple or a list of ints -/
def IntsP (L : List Int) (p : PV) : Prop := p = .tup (L.map .int) ∨ p = .lst (L.map .int) ∨ p = .xt (L.map .int)
theorem cof_loop {L : List Int} {p : PV} : ∀ (l : List Int) (c : List (Int × Int)) (l_size : Option LV), c.length + l.length < 1000000 → ∃ m_size, forL (bindS (exSs ph_counts_of_e975 1000000 bd_counts_of_e975_1) (.one 2)) (l.map .int) [some (.fro (p)), some (.own (dk c)), (l_size)] = .nx [some (.fro (p)), some (.own (dk (addAll c (l.map fun x => (x, 1))))), (m_size)]
  | [], c, s, _ => ⟨s, rfl⟩
  | x :: l, c, s, h => by
    rw [List.length_cons] at h
    have hl := len_add c x 1
    obtain ⟨m, e⟩ := cof_loop (L := L) (p := p) l (addL c x 1) (some (.fro (.int x))) (by omega)
    refine ⟨m, ?_⟩
    have hp := dk_put c x (tally c x + 1) (by omega)
    rw [List.map_cons]
    unfold forL
    have E : bindS (exSs ph_counts_of_e975 1000000 bd_counts_of_e975_1) (.one 2) (.int x) [some (.fro (p)), some (.own (dk c)), (s)] = .nx [some (.fro (p)), some (.own (dk (addL c x 1))), some (.fro (.int (x)))] := by
      simp -implicitDefEqProofs [evx, bd_counts_of_e975_1, -dgetP, dget_dk, -setIxP, hp, addL]
    rw [E]
    exact e
theorem cof_e975 {L : List Int} {p : PV} (hp : IntsP L p) (hl : L.length < 1000000) : g_counts_of_e975 [.fro p] = .ok (.own (dk (cnt L))) [.fro p] := by
  have hl2 : L.length ≤ 1000000 := by omega
  obtain ⟨m, e⟩ := cof_loop (L := L) (p := p) L [] none (by simpa using hl)
  rcases hp with rfl | rfl | rfl
  · (unfold g_counts_of_e975 ir_counts_of_e975; rw [runFn_eq _ _ _ _ ⟨rfl, by decide, rfl⟩])
    have e : forL (bindS (exSs ph_counts_of_e975 1000000 bd_counts_of_e975_1) (.one 2)) (L.map .int) [_, some (.own (.dK [] [])), none] = _ := e
    simp -implicitDefEqProofs [evx, hl2, e, cnt]
  · (unfold g_counts_of_e975 ir_counts_of_e975; rw [runFn_eq _ _ _ _ ⟨rfl, by decide, rfl⟩])
    have e : forL (bindS (exSs ph_counts_of_e975 1000000 bd_counts_of_e975_1) (.one 2)) (L.map .int) [_, some (.own (.dK [] [])), none] = _ := e
    simp -implicitDefEqProofs [evx, hl2, e, cnt]
  · (unfold g_counts_of_e975 ir_counts_of_e975; rw [runFn_eq _ _ _ _ ⟨rfl, by decide, rfl⟩])
    have e : forL (bindS (exSs ph_counts_of_e975 1000000 bd_counts_of_e975_1) (.one 2)) (L.map .int) [_, some (.own (.dK [] [])), none] = _ := e
    simp -implicitDefEqProofs [evx, hl2, e, cnt]
set_option maxHeartbeats 0
def ir_is_full_ffcd : Fn := ⟨2, 2, [0, 1], [.ret (.app .ge [.val (.app .sum [.ref 1]), .ref 0])]⟩
def ph_is_full_ffcd : Nat → List LV → CR := fun j => match j with | _ => fun _ => .st
def g_is_full_ffcd : List LV → CR := runFn ph_is_full_ffcd 1000000 ir_is_full_ffcd
theorem fullx_ffcd {L : List Int} {n : Int} : g_is_full_ffcd [.fro (.int n), .fro (.xt (L.map .int))] = .ok (.fro (.bl (decide (n ≤ L.sum)))) [.fro (.int n), .fro (.xt (L.map .int))] := by
  (unfold g_is_full_ffcd ir_is_full_ffcd; rw [runFn_eq _ _ _ _ ⟨rfl, by decide, rfl⟩])
  simp -implicitDefEqProofs [evx]
set_option maxHeartbeats 0
def ir_is_whole_15c9 : Fn := ⟨1, 1, [0], [.ret (.and (.app (.isTy ["int"]) [.ref 0]) (.not (.app (.isTy ["bool"]) [.ref 0])))]⟩
def ph_is_whole_15c9 : Nat → List LV → CR := fun j => match j with | _ => fun _ => .st
def g_is_whole_15c9 : List LV → CR := runFn ph_is_whole_15c9 1000000 ir_is_whole_15c9
-- use: U_known U_list U_cts U_pool
theorem iswh_15c9 (n : Int) : g_is_whole_15c9 [.fro (.int n)] = .ok (.fro (.bl true)) [.fro (.int n)] := by
  (unfold g_is_whole_15c9 ir_is_whole_15c9; rw [runFn_eq _ _ _ _ ⟨rfl, by decide, rfl⟩])
  simp -implicitDefEqProofs [evx]
set_option maxHeartbeats 0
set_option maxHeartbeats 0
def el_law_full_lot_9208_1 : Br.Ex := .var 7
def cd_law_full_lot_9208_1 : List Br.Tst := [.e (.app .gt [.val (.app .idx [.ref 2, .ref 7]), .val (.cst (.int 0))])]
def bd_law_full_lot_9208_1 : List Br.St := [.set 6 (.comp (.seq (.app .sortedD [.ref 2])) (.one 7) [7] cd_law_full_lot_9208_1 el_law_full_lot_9208_1), .ite (.and (.e (.app .gt [.val (.app .len [.ref 6]), .val (.cst (.int 0))])) (.or (.e (.app .lt [.val (.app .sum [.ref 3]), .val (.app .idx [.ref 1, .val (.cst (.int 0))])])) (.e (.app .gt [.ref 4, .val (.cst (.int 0))])))) [.set 4 (.app .sub [.ref 4, .val (.app .int1 [.val (.app .ge [.val (.app .sum [.ref 3]), .val (.app .idx [.ref 1, .val (.cst (.int 0))])])])]), .set 7 (.app .idx [.ref 6, .val (.app .idx [.val (.lst [.call 361 [.ref 0, .val (.app .len [.ref 6])], .app .sub [.val (.app .len [.ref 6]), .val (.cst (.int 1))]]), .val (.call 361 [.ref 0, .val (.cst (.int 2))])])]), .app 3 (.var 7), .setIx 2 (.var 7) (.app .sub [.val (.app .idx [.ref 2, .ref 7]), .val (.cst (.int 1))])] []]
def ir_law_full_lot_9208 : Fn := ⟨8, 2, [0, 1], [.set 2 (.app .dict1 [.val (.app .idx [.ref 1, .val (.cst (.int 1))])]), .set 3 (.lst []), .set 4 (.app .mul [.val (.call 361 [.ref 0, .val (.cst (.int 3))]), .val (.call 361 [.ref 0, .val (.cst (.int 2))])]), .for (.rng1 (.cst (.int 100))) (.one 5) bd_law_full_lot_9208_1, .ite (.e (.app .lt [.val (.app .sum [.ref 3]), .val (.app .idx [.ref 1, .val (.cst (.int 0))])])) [.ret (.cst .non)] [], .ret (.app .tupleX [.val (.app .sortedD [.ref 3])])]⟩
def ph_law_full_lot_9208 : Nat → List LV → CR := fun j => match j with | 361 => g_law_take_481c | _ => fun _ => .st
def g_law_full_lot_9208 : List LV → CR := runFn ph_law_full_lot_9208 1000000 ir_law_full_lot_9208
-- use: U_pot U_cts U_pool U_list U_comp U_ptog U_optl
theorem flot_step {a b c n : Int} {ks kc : List (Int × Int)} {F : List Int} {more : Int} {l_turn l_sizes l_size : Option LV} {i : Int} (ha : 0 ≤ a) (hb : 0 ≤ b) (hb2 : b ≤ 100000000000000) (hl : kc.length < 64) (hks : keysL kc = keysL ks) (nk : (keysL ks).Nodup)
    (hF : F.length ≤ 100) (hm : ∀ k, tally kc k = tally ks k - (F.count k : Int) ∧ 0 ≤ tally kc k) (sub : ∀ k ∈ F, k ∈ keysL ks) :
    ∃ (kc' : List (Int × Int)) (F' : List Int) (more' a' b' : Int) (m_sizes m_size : Option LV), kc'.length = kc.length ∧ keysL kc' = keysL ks ∧ F'.length ≤ F.length + 1 ∧ (∀ k, tally kc' k = tally ks k - (F'.count k : Int) ∧ 0 ≤ tally kc' k) ∧ (∀ k ∈ F', k ∈ keysL ks) ∧ 0 ≤ a' ∧ b ≤ b' ∧ b' ≤ b + 2 ∧
      bindS (exSs ph_law_full_lot_9208 1000000 bd_law_full_lot_9208_1) (.one 5) (.int i) [some (.own (.lst [.int a, .int b, .int c])), some (.fro (hp n ks)), some (.own (dk kc)), some (.own (.lst ((F).map .int))), some (.fro (.int (more))), l_turn, l_sizes, l_size] =
        .nx [some (.own (.lst [.int a', .int b', .int c])), some (.fro (hp n ks)), some (.own (dk kc')), some (.own (.lst ((F').map .int))), some (.fro (.int (more'))), some (.fro (.int (i))), m_sizes, m_size] := by
  have hs := sorted_dk hl
  have hslen : (sortI (keysL kc)).length ≤ 1000000 := by rw [sortI_len, keysL_len]; omega
  obtain ⟨S, hS⟩ : ∃ S : List Int, (sortI (keysL kc)).filter (fun k => decide (0 < tally kc k)) = S := ⟨_, rfl⟩
  have hSm : ∀ k ∈ S, k ∈ keysL ks ∧ 0 < tally kc k := fun k hk => by
    rw [← hS, List.mem_filter] at hk
    exact ⟨by rw [← hks]; exact (sortI_perm (keysL kc)).mem_iff.mp hk.1, by simpa using hk.2⟩
  have hSl : S.length ≤ 63 := by
    have := List.length_filter_le (fun k => decide (0 < tally kc k)) (sortI (keysL kc))
    rw [hS, sortI_len, keysL_len] at this
    omega
  by_cases h0 : S = []
  · refine ⟨kc, F, more, a, b, ?s1, ?s2, rfl, hks, by omega, hm, sub, ha, by omega, by omega, ?_⟩
    rotate_left 2
    · simp -implicitDefEqProofs [evx, bd_law_full_lot_9208_1, -sortedDP, hs, hslen]
      rw [comp_fl fun k => decide (0 < tally kc k)]
      · simp -implicitDefEqProofs [evx, hS, h0]
        refine ⟨?_, ?_⟩ <;> rfl
      · intro k hk
        have hi := find_dk (sortI_mem.mp hk)
        by_cases z : 0 < tally kc k <;> simp -implicitDefEqProofs [evx, cd_law_full_lot_9208_1, el_law_full_lot_9208_1, hi, z]
  have hSp : 0 < S.length := List.length_pos_iff.mpr h0
  have hSp2 : 0 < (S.length : Int) := by omega
  by_cases hc : F.sum < n ∨ 0 < more
  · obtain ⟨t1, a1, b1, p1, p2, p3, p4, p5, e1⟩ := take_481c (c := c) (m := (S.length : Int)) ha hb (by omega) (by omega) (by omega)
    obtain ⟨t2, a2, b2, q1, q2, q3, q4, q5, e2⟩ := take_481c (c := c) (m := 2) p3 (show 0 ≤ b1 by omega) (by omega) (by omega) (by omega)
    obtain ⟨j, hj, hj2, ej⟩ : ∃ j : Int, 0 ≤ j ∧ j < S.length ∧ L2.atI [PV.int t1, PV.int ((S.length : Int) - 1)] t2 = some (.int j) := by
      rcases (show t2 = 0 ∨ t2 = 1 by omega) with rfl | rfl
      · exact ⟨t1, p1, p2, atI_0 _ _⟩
      · exact ⟨(S.length : Int) - 1, by omega, by omega, atI_1 _ _ _⟩
    obtain ⟨v, hv, ev⟩ := atI_in (l := S.map PV.int) (x := j) hj (by rw [List.length_map]; exact hj2)
    obtain ⟨s, hsS, rfl⟩ := List.mem_map.mp hv
    obtain ⟨s1, s2⟩ := hSm s hsS
    have hkc : s ∈ keysL kc := by rw [hks]; exact s1
    have ep := dk_put kc s (tally kc s - 1) (by omega)
    have hi := find_dk hkc
    have hlen2 : F.length < 1000000 := by omega
    refine ⟨putL s (tally kc s - 1) kc, F ++ [s], more - (if n ≤ F.sum then 1 else 0), a2, b2, some (.own (.lst (S.map .int))), some (.fro (.int s)), len_put_old hkc, by rw [keys_put_old hkc, hks], by simp, fun k => ?_, fun k hk => ?_, q3, by omega, by omega, ?_⟩
    · rw [tally_put, List.count_append, List.count_singleton]
      have h1 := hm k
      by_cases z : k = s
      · subst z
        rw [if_pos rfl]
        simp
        omega
      · have z2 : ¬ s = k := fun w => z w.symm
        rw [if_neg z]
        simp [z2]
        exact h1
    · rcases List.mem_append.mp hk with hk | hk
      · exact sub k hk
      · simp at hk; rw [hk]; exact s1
    · simp -implicitDefEqProofs [evx, bd_law_full_lot_9208_1, -sortedDP, hs, hslen]
      rw [comp_fl fun k => decide (0 < tally kc k)]
      · simp only [hS]
        by_cases hc1 : F.sum < n
        · have hc3 : ¬ n ≤ F.sum := by omega
          simp -implicitDefEqProofs [evx, ph_law_full_lot_9208, hSp2, hSp, intsOf_map, hc1, hc3, e1, e2, ej, ev, hi, hlen2, -setIxP, ep]
        · have hc3 : n ≤ F.sum := by omega
          have hc4 : 0 < more := hc.resolve_left hc1
          simp -implicitDefEqProofs [evx, ph_law_full_lot_9208, hSp2, hSp, intsOf_map, hc1, hc3, hc4, e1, e2, ej, ev, hi, hlen2, -setIxP, ep]
      · intro k hk
        have hi := find_dk (sortI_mem.mp hk)
        by_cases z : 0 < tally kc k <;> simp -implicitDefEqProofs [evx, cd_law_full_lot_9208_1, el_law_full_lot_9208_1, hi, z]
  · have hc1 : ¬ F.sum < n := fun z => hc (.inl z)
    have hc2 : ¬ 0 < more := fun z => hc (.inr z)
    refine ⟨kc, F, more, a, b, some (.own (.lst (S.map .int))), froO (some l_size), rfl, hks, by omega, hm, sub, ha, by omega, by omega, ?_⟩
    · simp -implicitDefEqProofs [evx, bd_law_full_lot_9208_1, -sortedDP, hs, hslen]
      rw [comp_fl fun k => decide (0 < tally kc k)]
      · simp only [hS]
        simp -implicitDefEqProofs [evx, hSp2, hSp, hc1, hc2]

      · intro k hk
        have hi := find_dk (sortI_mem.mp hk)
        by_cases z : 0 < tally kc k <;> simp -implicitDefEqProofs [evx, cd_law_full_lot_9208_1, el_law_full_lot_9208_1, hi, z]
/-- None, or a known lot -/
def optX (r : Option (List Int)) : PV := match r with
  | none => .non
  | some L => .xt (L.map .int)
theorem flot_9208 {a b c n : Int} {ks : List (Int × Int)} (ha : 0 ≤ a) (hb : 0 ≤ b) (hb2 : b ≤ 10000000000000) (hn : 1 ≤ n) (hk : Kinds ks) (hl : ks.length < 64) (hs : ∀ q ∈ ks, 1 ≤ q.1 ∧ q.1 ≤ 1000000000000) :
    ∃ (r : Option (List Int)) (a' b' : Int), (∀ L, r = some L → LotOk L ∧ n ≤ L.sum ∧ ∀ k, (L.count k : Int) ≤ tally ks k) ∧ 0 ≤ a' ∧ b ≤ b' ∧ b' ≤ b + 202 ∧ g_law_full_lot_9208 [pt a b c, .fro (hp n ks)] = .ok (.fro (optX r)) [pt a' b' c, .fro (hp n ks)] := by
  obtain ⟨t1, a1, b1, p1, p2, p3, p4, p5, e1⟩ := take_481c (c := c) (m := 3) ha hb (by omega) (by omega) (by omega)
  obtain ⟨t2, a2, b2, q1, q2, q3, q4, q5, e2⟩ := take_481c (c := c) (m := 2) p3 (show 0 ≤ b1 by omega) (by omega) (by omega) (by omega)
  have hd := dict_prs hk.nd (by omega)
  have tn : ∀ k, 0 ≤ tally ks k := fun k => by
    by_cases z : k ∈ keysL ks
    · unfold keysL at z
      obtain ⟨q, hq, rfl⟩ := List.mem_map.mp z
      rw [tally_mem hk.nd hq]
      have := hk.2 q hq
      omega
    · rw [tally_none z]; omega
  obtain ⟨ρ, e3, kc, F, more, a3, b3, s1, s2, s3, r1, r2, r3, r4, r5, r6, r7, r8, rfl⟩ := forL_inv (f := bindS (exSs ph_law_full_lot_9208 1000000 bd_law_full_lot_9208_1) (.one 5)) (xs := rngP 0 100) (ρ := [some (.own (.lst [.int a2, .int b2, .int c])), some (.fro (hp n ks)), some (.own (dk ks)), some (.own (.lst [])), some (.fro (.int (t1 * t2))), none, none, none])
    (fun i ρ => ∃ (kc : List (Int × Int)) (F : List Int) (more a' b' : Int) (l_turn l_sizes l_size : Option LV), kc.length = ks.length ∧ keysL kc = keysL ks ∧ F.length ≤ i ∧ (∀ k, tally kc k = tally ks k - (F.count k : Int) ∧ 0 ≤ tally kc k) ∧ (∀ k ∈ F, k ∈ keysL ks) ∧ 0 ≤ a' ∧ b2 ≤ b' ∧ b' ≤ b2 + 2 * i ∧ ρ = [some (.own (.lst [.int a', .int b', .int c])), some (.fro (hp n ks)), some (.own (dk kc)), some (.own (.lst ((F).map .int))), some (.fro (.int (more))), l_turn, l_sizes, l_size])
    ⟨ks, [], t1 * t2, a2, b2, none, none, none, rfl, rfl, by simp, fun k => ⟨by simp, tn k⟩, by simp, q3, by omega, by omega, rfl⟩
    (fun i x ρ hx hi => by
      obtain ⟨kc, F, more, a', b', s1, s2, s3, r1, r2, r3, r4, r5, r6, r7, r8, rfl⟩ := hi
      obtain ⟨rfl, hi2⟩ := rngP_at hx
      obtain ⟨kc', F', more', a'', b'', m1, m2, w1, w2, w3, w4, w5, w6, w7, w8, e⟩ := flot_step (n := n) (ks := ks) (c := c) (more := more) (l_turn := s1) (l_sizes := s2) (l_size := s3) (i := 0 + (i : Int)) r6 (show 0 ≤ b' by omega) (by omega) (by omega) r2 hk.nd (by omega) r4 r5
      exact ⟨_, .inl e, kc', F', more', a'', b'', _, _, _, by omega, w2, by omega, w4, w5, w6, by omega, by omega, rfl⟩)
  rw [rngP_len] at r3 r8
  have hF : F.length ≤ 100 := by omega
  have hr : rngOk 100 := rng_ok (by omega) (by omega)
  have hm3 : t1.natAbs < 18446744073709551616 := by omega
  have hsort : sortedDP [.lst (F.map .int)] = some (.lst ((sortI F).map .int)) := by
    simp [sortedDP, sortedP]
  by_cases hc : F.sum < n
  · refine ⟨none, a3, b3, (fun L h => nomatch h), r6, by omega, by omega, ?_⟩
    (unfold g_law_full_lot_9208 ir_law_full_lot_9208; rw [runFn_eq _ _ _ _ ⟨rfl, by decide, rfl⟩])
    simp -implicitDefEqProofs [evx, ph_law_full_lot_9208, -dict1P, hd, e1, e2, hm3, hr, e3, hc, optX]
  · refine ⟨some (sortI F), a3, b3, fun L h => ?_, r6, by omega, by omega, ?_⟩
    · cases h
      have hne : F ≠ [] := fun z => by rw [z] at hc; simp at hc; omega
      have hpos := List.length_pos_iff.mpr hne
      refine ⟨⟨by rw [sortI_len]; omega, by rw [sortI_len]; omega, fun x hx => ?_, sortI_sorted F⟩, ?_, fun k => ?_⟩
      · have h1 := r5 x (sortI_mem.mp hx)
        unfold keysL at h1
        obtain ⟨q, hq, rfl⟩ := List.mem_map.mp h1
        exact hs q hq
      · rw [perm_sum (sortI_perm F)]; omega
      · rw [(sortI_perm F).count_eq]
        have := r4 k
        omega
    · (unfold g_law_full_lot_9208 ir_law_full_lot_9208; rw [runFn_eq _ _ _ _ ⟨rfl, by decide, rfl⟩])
      simp -implicitDefEqProofs [evx, ph_law_full_lot_9208, -dict1P, hd, e1, e2, hm3, hr, e3, hc, optX, -sortedDP, hsort]
set_option maxHeartbeats 0
-- use: U_list
/-! a tuple with one number put otherwise -/
theorem cut_setL {L : List Int} {i : Nat} (x : Int) (hi : i < L.length) : cutP (L.map PV.int) none (some (i : Int)) ++ PV.int x :: cutP (L.map PV.int) (some ((i : Int) + 1)) none = (L.set i x).map .int := by
  unfold cutP
  rw [HT.sIx_none, HT.sIx_none, HT.sIx_nat, show (i : Int) + 1 = ((i + 1 : Nat) : Int) by omega, HT.sIx_nat, List.set_eq_take_append_cons_drop, if_pos hi]
  simp only [List.length_map, List.drop_zero, List.map_append, List.map_cons, List.map_take, List.map_drop, Nat.sub_zero]
  rw [show min i L.length = i by omega, show min (i + 1) L.length = i + 1 by omega, List.take_of_length_le (l := List.drop (i + 1) (L.map PV.int)) (by simp)]
theorem cut_lenL {L : List Int} {i : Nat} (hi : i < L.length) : (cutP (L.map PV.int) none (some (i : Int))).length = i := by
  unfold cutP
  rw [HT.sIx_none, HT.sIx_nat]
  simp only [List.length_map, List.drop_zero, List.length_take, Nat.sub_zero]
  omega
theorem cut_setP {L : List PV} {i : Nat} (x : PV) (hi : i < L.length) : cutP L none (some (i : Int)) ++ x :: cutP L (some ((i : Int) + 1)) none = L.set i x := by
  unfold cutP
  rw [HT.sIx_none, HT.sIx_none, HT.sIx_nat, show (i : Int) + 1 = ((i + 1 : Nat) : Int) by omega, HT.sIx_nat, List.set_eq_take_append_cons_drop, if_pos hi]
  simp only [List.drop_zero, Nat.sub_zero]
  rw [show min i L.length = i by omega, show min (i + 1) L.length = i + 1 by omega, List.take_of_length_le (l := List.drop (i + 1) L) (by simp)]
theorem cut_lo {L : List PV} {i : Nat} (hi : i ≤ L.length) : cutP L none (some (i : Int)) = L.take i := by
  unfold cutP
  rw [HT.sIx_none, HT.sIx_nat]
  simp only [List.drop_zero, Nat.sub_zero]
  rw [show min i L.length = i by omega]
theorem cut_hi {L : List PV} {i : Nat} (hi : i < L.length) : cutP L (some ((i : Int) + 1)) none = L.drop (i + 1) := by
  unfold cutP
  rw [HT.sIx_none, show (i : Int) + 1 = ((i + 1 : Nat) : Int) by omega, HT.sIx_nat]
  rw [show min (i + 1) L.length = i + 1 by omega, List.take_of_length_le (l := List.drop (i + 1) L) (by simp)]
set_option maxHeartbeats 0
def el_law_other_lot_6c5d_1 : Br.Ex := .var 7
def ir_law_other_lot_6c5d : Fn := ⟨9, 3, [0, 1, 2], [.set 3 (.app .list1 [.ref 2]), .set 4 (.call 361 [.ref 0, .val (.app .len [.ref 3])]), .set 5 (.app .add [.val (.comp (.seq (.app .idx [.ref 1, .val (.cst (.int 1))])) (.tup [.one 7, .one 8]) [7, 8] [] el_law_other_lot_6c5d_1), .val (.lst [.cst (.int 1), .app .idx [.ref 1, .val (.cst (.int 0))], .app .sub [.val (.cst (.int 0)), .val (.cst (.int 1))], .cst (.int 0)])]), .set 6 (.call 361 [.ref 0, .val (.cst (.int 6))]), .ite (.e (.app .eq [.ref 6, .val (.cst (.int 0))])) [.popA 3 (.var 4)] [.ite (.e (.app .eq [.ref 6, .val (.cst (.int 1))])) [.set 3 (.app .sortedD [.val (.app .add [.ref 3, .val (.lst [.app .idx [.ref 5, .val (.call 361 [.ref 0, .val (.app .len [.ref 5])])]])])])] [.ite (.e (.app .eq [.ref 6, .val (.cst (.int 2))])) [.set 3 (.app .sortedD [.val (.app .add [.val (.app .add [.val (.app (.slc false true) [.ref 3, .ref 4]), .val (.lst [.app .idx [.ref 5, .val (.call 361 [.ref 0, .val (.app .len [.ref 5])])]])]), .val (.app (.slc true false) [.ref 3, .val (.app .add [.ref 4, .val (.cst (.int 1))])])])])] [.ite (.e (.app .eq [.ref 6, .val (.cst (.int 3))])) [.set 3 (.app .rev [.ref 3])] [.ite (.e (.app .eq [.ref 6, .val (.cst (.int 4))])) [.set 3 (.app .sortedD [.val (.app .add [.val (.app .add [.val (.app (.slc false true) [.ref 3, .ref 4]), .val (.lst [.app .add [.val (.app .idx [.ref 3, .ref 4]), .val (.app .idx [.val (.lst [.cst (.int 1), .app .sub [.val (.cst (.int 0)), .val (.cst (.int 1))]]), .val (.call 361 [.ref 0, .val (.cst (.int 2))])])]])]), .val (.app (.slc true false) [.ref 3, .val (.app .add [.ref 4, .val (.cst (.int 1))])])])])] [.set 3 (.app .add [.val (.app .mul [.val (.lst [.app .idx [.ref 3, .val (.cst (.int 0))]]), .val (.app .sub [.val (.cst (.int 101)), .val (.app .len [.ref 3])])]), .ref 3])]]]]], .ret (.app .tupleX [.ref 3])]⟩
def ph_law_other_lot_6c5d : Nat → List LV → CR := fun j => match j with | 361 => g_law_take_481c | _ => fun _ => .st
def g_law_other_lot_6c5d : List LV → CR := runFn ph_law_other_lot_6c5d 1000000 ir_law_other_lot_6c5d
-- use: U_pot U_cts U_pool U_list U_cut U_comp U_idx U_xd
def BdI (M : List Int) : Prop := ∀ x ∈ M, x.natAbs ≤ 10000000000000
theorem BdI.sort {M : List Int} (h : BdI M) : BdI (sortI M) := fun x hx => h x (sortI_mem.mp hx)
theorem BdI.set {M : List Int} (h : BdI M) {v : Int} (hv : v.natAbs ≤ 10000000000000) (k : Nat) : BdI (M.set k v) := fun x hx => by
  rcases List.mem_or_eq_of_mem_set hx with hx | rfl
  · exact h x hx
  · exact hv
theorem sorted_ints (M : List Int) : sortedDP [.lst (M.map .int)] = some (.lst ((sortI M).map .int)) := by simp [sortedDP, sortedP]
theorem other_6c5d {a b c n : Int} {ks : List (Int × Int)} {L : List Int} (ha : 0 ≤ a) (hb : 0 ≤ b) (hb2 : b ≤ 10000000000000) (hn : 1 ≤ n) (hn2 : n ≤ 1000000000000) (hl : ks.length < 64) (hs : ∀ q ∈ ks, 1 ≤ q.1 ∧ q.1 ≤ 1000000000000) (hL : LotOk L) :
    ∃ (M : List Int) (a' b' : Int), M.length ≤ 101 ∧ BdI M ∧ 0 ≤ a' ∧ b ≤ b' ∧ b' ≤ b + 4 ∧ g_law_other_lot_6c5d [pt a b c, .fro (hp n ks), .fro (xI L)] = .ok (.fro (xI M)) [pt a' b' c, .fro (hp n ks), .fro (xI L)] := by
  obtain ⟨l1, l2, l3, l4⟩ := hL
  have A : BdI L := fun x hx => by have := l3 x hx; omega
  have hl6 : L.length ≤ 1000000 := by omega
  have hl7 : L.length < 1000000 := by omega
  obtain ⟨t1, a1, b1, p1, p2, p3, p4, p5, e1⟩ := take_481c (c := c) (m := (L.length : Int)) ha hb (by omega) (by omega) (by omega)
  obtain ⟨t2, a2, b2, q1, q2, q3, q4, q5, e2⟩ := take_481c (c := c) (m := 6) p3 (show 0 ≤ b1 by omega) (by omega) (by omega) (by omega)
  obtain ⟨S, hS⟩ : ∃ S : List Int, S = ks.map (·.1) ++ [1, n, -1, 0] := ⟨_, rfl⟩
  have hSl : S.length = ks.length + 4 := by rw [hS]; simp
  have hSb : BdI S := fun x hx => by
    rw [hS] at hx
    rcases List.mem_append.mp hx with hx | hx
    · obtain ⟨q, hq, rfl⟩ := List.mem_map.mp hx
      have := hs q hq
      omega
    · simp at hx
      omega
  obtain ⟨t3, a3, b3, r1, r2, r3, r4, r5, e3⟩ := take_481c (c := c) (m := (S.length : Int)) q3 (show 0 ≤ b2 by omega) (by omega) (by omega) (by omega)
  obtain ⟨t4, a4, b4, s1, s2, s3, s4, s5, e4⟩ := take_481c (c := c) (m := 2) q3 (show 0 ≤ b2 by omega) (by omega) (by omega) (by omega)
  obtain ⟨s, hs1, hs2⟩ := atI_int (l := S) r1 r2
  have hsb := hSb s hs1
  have hcm : ∀ ρ : Br.Env, (∀ q ∈ ks, cF ph_law_other_lot_6c5d (.tup [.one 7, .one 8]) [7, 8] [] el_law_other_lot_6c5d_1 (.tup [.int q.1, .int q.2]) ρ = .ok (some (.int q.1)) ρ) → compL (cF ph_law_other_lot_6c5d (.tup [.one 7, .one 8]) [7, 8] [] el_law_other_lot_6c5d_1) (ks.map fun q => PV.tup [.int q.1, .int q.2]) ρ = .ok ((ks.map (·.1)).map .int) ρ := fun ρ h => comp_mp .int (fun q : Int × Int => q.1) h
  have hcat : (ks.map (·.1)).map PV.int ++ [.int 1, .int n, .int (-1), .int 0] = S.map .int := by rw [hS]; simp
  have hS6 : S.length ≤ 1000000 := by omega
  obtain ⟨k, rfl⟩ := Int.eq_ofNat_of_zero_le p1
  have hk : k < L.length := by omega
  have g1 : L2.atI (L.map PV.int) (k : Int) = some (.int L[k]) := atI_n _ k _ (by simp [hk])
  have g0 : L2.atI (L.map PV.int) 0 = some (.int L[0]) := atI_n _ 0 _ (by simp)
  have j0 : (k : Int) < L.length := by omega
  have j1 : (k : Int) < 1000000 := by omega
  have cs := fun v : Int => cut_setL (L := L) v hk
  have cl := cut_lenL (L := L) hk
  have hkl := l3 _ (List.getElem_mem hk)
  (unfold g_law_other_lot_6c5d ir_law_other_lot_6c5d; rw [runFn_eq _ _ _ _ ⟨rfl, by decide, rfl⟩])
  have hq : t2 = 0 ∨ t2 = 1 ∨ t2 = 2 ∨ t2 = 3 ∨ t2 = 4 ∨ t2 = 5 := by omega
  have hk6 : ks.length ≤ 1000000 := by omega
  have h96 : ks.length ≤ 999996 := by omega
  have so := sorted_ints
  have h99 : L.length ≤ 999999 := by omega
  have k99 : k ≤ 999999 := by omega
  have ch : (cutP (L.map PV.int) (some ((k : Int) + 1)) none).length = L.length - (k + 1) := by rw [cut_hi (by simpa using hk)]; simp
  have kk : k + 1 + (L.length - (k + 1)) ≤ 1000000 := by omega
  have sv : ∀ v : Int, sortedDP [.lst ((L.map PV.int).set k (.int v))] = some (.lst ((sortI (L.set k v)).map .int)) := fun v => by rw [← so]; simp
  have u1 : (L.length : Int) ≤ 101 := by omega
  have u2 : 101 - (L.length : Int) ≤ 1000000 := by omega
  have u3 : 101 - L.length + L.length ≤ 1000000 := by omega
  have hSx : (S.map PV.int).length = S.length := by simp
  have j2 : k < L.length := hk
  have lm : (L.map PV.int).length = L.length := by simp
  rcases hq with rfl | rfl | rfl | rfl | rfl | rfl
  · refine ⟨L.eraseIdx k, a2, b2, by rw [List.length_eraseIdx]; split <;> omega, fun x hx => A x (List.mem_of_mem_eraseIdx hx), q3, by omega, by omega, ?_⟩
    have er : (L.map PV.int).eraseIdx k = (L.eraseIdx k).map .int := by rw [List.eraseIdx_eq_take_drop_succ, List.eraseIdx_eq_take_drop_succ, List.map_append, List.map_take, List.map_drop]
    simp -implicitDefEqProofs [evx, ph_law_other_lot_6c5d, e1, -List.map_map, hl6, hk6]
    rw [hcm _ fun q hq => by simp -implicitDefEqProofs [evx, el_law_other_lot_6c5d_1]]
    simp -implicitDefEqProofs [evx, -L2.ixN, -L2.atI, -sortedDP, ph_law_other_lot_6c5d, -List.map_map, hcat, hSx, e2, e3, e4, hs2, hl6, hl7, hS6, h96, h99, k99, kk, sv, u1, u2, u3, ch, j0, j1, j2, g1, g0, cs, cl, so, er]
  · refine ⟨sortI (L ++ [s]), a3, b3, by rw [sortI_len]; simp; omega, BdI.sort fun x hx => (List.mem_append.mp hx).elim (A x) (fun h => by simp at h; rw [h]; exact hsb), r3, by omega, by omega, ?_⟩
    have so1 : sortedDP [.lst (L.map .int ++ [.int s])] = some (.lst ((sortI (L ++ [s])).map .int)) := by rw [← so]; simp
    simp -implicitDefEqProofs [evx, ph_law_other_lot_6c5d, e1, -List.map_map, hl6, hk6]
    rw [hcm _ fun q hq => by simp -implicitDefEqProofs [evx, el_law_other_lot_6c5d_1]]
    simp -implicitDefEqProofs [evx, -L2.ixN, -L2.atI, -sortedDP, ph_law_other_lot_6c5d, -List.map_map, hcat, hSx, e2, e3, e4, hs2, hl6, hl7, hS6, h96, h99, k99, kk, sv, u1, u2, u3, ch, j0, j1, j2, g1, g0, cs, cl, so, so1]
  · refine ⟨sortI (L.set k s), a3, b3, by rw [sortI_len]; simp; omega, BdI.sort (A.set hsb k), r3, by omega, by omega, ?_⟩
    simp -implicitDefEqProofs [evx, ph_law_other_lot_6c5d, e1, -List.map_map, hl6, hk6]
    rw [hcm _ fun q hq => by simp -implicitDefEqProofs [evx, el_law_other_lot_6c5d_1]]
    simp -implicitDefEqProofs [evx, -L2.ixN, -L2.atI, -sortedDP, ph_law_other_lot_6c5d, -List.map_map, hcat, hSx, e2, e3, e4, hs2, hl6, hl7, hS6, h96, h99, k99, kk, sv, u1, u2, u3, ch, j0, j1, j2, g1, g0, cs, cl, so]
  · refine ⟨L.reverse, a2, b2, by simp; omega, fun x hx => A x (List.mem_reverse.mp hx), q3, by omega, by omega, ?_⟩
    simp -implicitDefEqProofs [evx, ph_law_other_lot_6c5d, e1, -List.map_map, hl6, hk6]
    rw [hcm _ fun q hq => by simp -implicitDefEqProofs [evx, el_law_other_lot_6c5d_1]]
    simp -implicitDefEqProofs [evx, -L2.ixN, -L2.atI, -sortedDP, ph_law_other_lot_6c5d, -List.map_map, hcat, hSx, e2, e3, e4, hs2, hl6, hl7, hS6, h96, h99, k99, kk, sv, u1, u2, u3, ch, j0, j1, j2, g1, g0, cs, cl, so]
  · have ht : t4 = 0 ∨ t4 = 1 := by omega
    rcases ht with rfl | rfl
    · refine ⟨sortI (L.set k (L[k] + 1)), a4, b4, by rw [sortI_len]; simp; omega, BdI.sort (A.set (by omega) k), s3, by omega, by omega, ?_⟩
      simp -implicitDefEqProofs [evx, ph_law_other_lot_6c5d, e1, -List.map_map, hl6, hk6]
      rw [hcm _ fun q hq => by simp -implicitDefEqProofs [evx, el_law_other_lot_6c5d_1]]
      simp -implicitDefEqProofs [evx, -L2.ixN, -L2.atI, -sortedDP, ph_law_other_lot_6c5d, -List.map_map, hcat, hSx, e2, e3, e4, hs2, hl6, hl7, hS6, h96, h99, k99, kk, sv, u1, u2, u3, ch, j0, j1, j2, g1, g0, cs, cl, so]
    · refine ⟨sortI (L.set k (L[k] + -1)), a4, b4, by rw [sortI_len]; simp; omega, BdI.sort (A.set (by omega) k), s3, by omega, by omega, ?_⟩
      simp -implicitDefEqProofs [evx, ph_law_other_lot_6c5d, e1, -List.map_map, hl6, hk6]
      rw [hcm _ fun q hq => by simp -implicitDefEqProofs [evx, el_law_other_lot_6c5d_1]]
      simp -implicitDefEqProofs [evx, -L2.ixN, -L2.atI, -sortedDP, ph_law_other_lot_6c5d, -List.map_map, hcat, hSx, e2, e3, e4, hs2, hl6, hl7, hS6, h96, h99, k99, kk, sv, u1, u2, u3, ch, j0, j1, j2, g1, g0, cs, cl, so]
  · refine ⟨List.replicate (101 - L.length) L[0] ++ L, a2, b2, by simp; omega, fun x hx => (List.mem_append.mp hx).elim (fun h => by rw [(List.mem_replicate.mp h).2]; exact A _ (List.getElem_mem _)) (A x), q3, by omega, by omega, ?_⟩
    simp -implicitDefEqProofs [evx, ph_law_other_lot_6c5d, e1, -List.map_map, hl6, hk6]
    rw [hcm _ fun q hq => by simp -implicitDefEqProofs [evx, el_law_other_lot_6c5d_1]]
    simp -implicitDefEqProofs [evx, -L2.ixN, -L2.atI, -sortedDP, ph_law_other_lot_6c5d, -List.map_map, hcat, hSx, e2, e3, e4, hs2, hl6, hl7, hS6, h96, h99, k99, kk, sv, u1, u2, u3, ch, j0, j1, j2, g1, g0, cs, cl, so]
set_option maxHeartbeats 0
def bd_law_wide_88c9_1 : List Br.St := [.set 2 (.app .add [.val (.app .mul [.ref 2, .val (.cst (.int 1000003))]), .val (.call 361 [.ref 0, .val (.cst (.int 1000003))])])]
def ir_law_wide_88c9 : Fn := ⟨4, 2, [0, 1], [.ite (.or (.e (.app .gt [.val (.app .idx [.ref 0, .val (.cst (.int 0))]), .val (.cst (.int 0))])) (.e (.app .lt [.ref 1, .val (.app .pow [.val (.cst (.int 10)), .val (.cst (.int 6))])]))) [.ret (.call 361 [.ref 0, .ref 1])] [], .set 2 (.cst (.int 0)), .for (.rng1 (.app .add [.val (.cst (.int 3)), .val (.app .fdiv [.val (.app .bits [.ref 1]), .val (.cst (.int 19))])])) (.one 3) bd_law_wide_88c9_1, .ret (.app .mod [.ref 2, .ref 1])]⟩
def ph_law_wide_88c9 : Nat → List LV → CR := fun j => match j with | 361 => g_law_take_481c | _ => fun _ => .st
def g_law_wide_88c9 : List LV → CR := runFn ph_law_wide_88c9 1000000 ir_law_wide_88c9
-- use: U_pot U_list
theorem bits_le {m : Int} (h0 : 0 < m) (h1 : m ≤ 1000000000000) : Builtin.Int.intBits m ≤ 40 := by
  unfold Builtin.Int.intBits
  rw [if_neg (by simp; omega)]
  have := (Nat.log2_lt (n := m.natAbs) (k := 40) (by omega)).mpr (by omega)
  omega
theorem wide_88c9 {a b c m : Int} (ha : 0 ≤ a) (hb : 0 ≤ b) (hb2 : b ≤ 100000000000000) (hm : 0 < m) (hl : m ≤ 1000000000000) : ∃ q a' b' : Int, 0 ≤ q ∧ q < m ∧ 0 ≤ a' ∧ b ≤ b' ∧ b' ≤ b + 8 ∧ g_law_wide_88c9 [pt a b c, .fro (.int m)] = .ok (.fro (.int q)) [pt a' b' c, .fro (.int m)] := by
  by_cases h : 0 < a ∨ m < 1000000
  · obtain ⟨q, a', b', h1, h2, h3, h4, h5, e⟩ := take_481c (c := c) (m := m) ha hb (by omega) hm (by omega)
    refine ⟨q, a', b', h1, h2, h3, h4, by omega, ?_⟩
    (unfold g_law_wide_88c9 ir_law_wide_88c9; rw [runFn_eq _ _ _ _ ⟨rfl, by decide, rfl⟩])
    by_cases h0 : 0 < a
    · simp -implicitDefEqProofs [evx, ph_law_wide_88c9, h0, e]
    · have h6 := h.resolve_left h0
      simp -implicitDefEqProofs [evx, ph_law_wide_88c9, h0, h6, e]
  · have h0 : ¬ 0 < a := fun z => h (.inl z)
    have h6 : ¬ m < 1000000 := fun z => h (.inr z)
    have hb40 := bits_le hm hl
    obtain ⟨K, hK, hK2⟩ : ∃ K : Int, 3 + (Builtin.Int.intBits m : Int) / 19 = K ∧ K ≤ 8 := ⟨_, rfl, by omega⟩
    have hr : rngOk K := rng_ok (by omega) (by omega)
    obtain ⟨ρ, e1, num, a', b', s, hn, ha', hb1, hb3, rfl⟩ := forL_inv (f := bindS (exSs ph_law_wide_88c9 1000000 bd_law_wide_88c9_1) (.one 3)) (xs := rngP 0 K) (ρ := [some (.own (.lst [.int a, .int b, .int c])), some (.fro (.int (m))), some (.fro (.int (0))), none])
      (fun i ρ => ∃ (num a' b' : Int) (l_turn : Option LV), 0 ≤ num ∧ 0 ≤ a' ∧ b ≤ b' ∧ b' ≤ b + i ∧ ρ = [some (.own (.lst [.int a', .int b', .int c])), some (.fro (.int (m))), some (.fro (.int (num))), (l_turn)])
      ⟨0, a, b, none, by omega, ha, by omega, by omega, rfl⟩
      (fun i x ρ hx hi => by
        obtain ⟨num, a1, b', s, hn, ha1, hb1, hb3, rfl⟩ := hi
        obtain ⟨rfl, hi2⟩ := rngP_at hx
        obtain ⟨q, a', b2, h1, h2, h3, h4, h5, e⟩ := take_481c (a := a1) (b := b') (c := c) (m := 1000003) ha1 (by omega) (by omega) (by omega) (by omega)
        refine ⟨[some (.own (.lst [.int a', .int b2, .int c])), some (.fro (.int (m))), some (.fro (.int (num * 1000003 + q))), some (.fro (.int (0 + (i : Int))))], .inl ?_, num * 1000003 + q, a', b2, _, by omega, h3, by omega, by omega, rfl⟩
        simp -implicitDefEqProofs [evx, bd_law_wide_88c9_1, ph_law_wide_88c9, e])
    have hlen := rngP_len 0 K
    refine ⟨num % m, a', b', Int.emod_nonneg _ (by omega), Int.emod_lt_of_pos _ hm, ha', hb1, by omega, ?_⟩
    (unfold g_law_wide_88c9 ir_law_wide_88c9; rw [runFn_eq _ _ _ _ ⟨rfl, by decide, rfl⟩])
    simp -implicitDefEqProofs [evx, h0, h6, hK, hr, e1, hm]
set_option maxHeartbeats 0
def bd_counts_taken_de42_1 : List Br.St := [.setIx 1 (.var 5) (.app .add [.val (.mth .dget (.ref 1) [.ref 5, .val (.cst (.int 0))]), .val (.app .mul [.val (.app .idx [.ref 4, .ref 5]), .ref 3])])]
def bd_counts_taken_de42_2 : List Br.St := [.set 4 (.call 422 [.ref 2]), .for (.lock 4 false) (.one 5) bd_counts_taken_de42_1]
def ir_counts_taken_de42 : Fn := ⟨6, 1, [0], [.set 1 (.dnew), .for (.seq (.var 0)) (.tup [.one 2, .one 3]) bd_counts_taken_de42_2, .retV 1]⟩
def ph_counts_taken_de42 : Nat → List LV → CR := fun j => match j with | 422 => g_counts_of_e975 | _ => fun _ => .st
def g_counts_taken_de42 : List LV → CR := runFn ph_counts_taken_de42 1000000 ir_counts_taken_de42
-- use: U_cts U_pool U_xd
/-- known lots -/
theorem ctx_in {kv : List (Int × Int)} {p : PV} {L : List Int} {t : Int} (nd : (keysL kv).Nodup) (ht : t.natAbs < 18446744073709551616) : ∀ (l c : List (Int × Int)) (l_size : Option LV), (∀ q ∈ l, q ∈ kv) → c.length + l.length < 1000000 →
    ∃ m_size, forL (bindS (exSs ph_counts_taken_de42 1000000 bd_counts_taken_de42_1) (.one 5)) ((keysL l).map .int) [some (.fro (p)), some (.own (dk c)), some (.fro (xI L)), some (.fro (.int (t))), some (.fro (dk kv)), (l_size)] = .nx [some (.fro (p)), some (.own (dk (addAll c (timesL l t)))), some (.fro (xI L)), some (.fro (.int (t))), some (.fro (dk kv)), (m_size)]
  | [], c, s, _, _ => ⟨s, rfl⟩
  | q :: l, c, s, hs, hc => by
    rw [List.length_cons] at hc
    have hl := len_add c q.1 (q.2 * t)
    have hkv := hs q (by simp)
    have hk : q.1 ∈ keysL kv := by unfold keysL; exact List.mem_map_of_mem hkv
    have hv := tally_mem nd hkv
    obtain ⟨m, e⟩ := ctx_in (p := p) (L := L) nd ht l (addL c q.1 (q.2 * t)) (some (.fro (.int q.1))) (fun r hr => hs r (by simp [hr])) (by omega)
    refine ⟨m, ?_⟩
    have hp := dk_put c q.1 (tally c q.1 + q.2 * t) (by omega)
    have hi := idx_dk hk
    rw [hv] at hi
    have e1 : keysL (q :: l) = q.1 :: keysL l := rfl
    rw [e1, List.map_cons]
    unfold forL
    have E : bindS (exSs ph_counts_taken_de42 1000000 bd_counts_taken_de42_1) (.one 5) (.int q.1) [some (.fro (p)), some (.own (dk c)), some (.fro (xI L)), some (.fro (.int (t))), some (.fro (dk kv)), (s)] = .nx [some (.fro (p)), some (.own (dk (addL c q.1 (q.2 * t)))), some (.fro (xI L)), some (.fro (.int (t))), some (.fro (dk kv)), some (.fro (.int (q.1)))] := by
      simp -implicitDefEqProofs [evx, bd_counts_taken_de42_1, -dgetP, dget_dk, -setIxP, hp, -idxP, hi, ht, addL]
    rw [E]
    exact e
theorem ctx_out {p : PV} (hp : PV.noD p = true) : ∀ (fl : List (List Int × Int)) (c : List (Int × Int)) (l_lot l_times l_own l_size : Option LV), (∀ q ∈ fl, q.1.length ≤ 1000 ∧ q.2.natAbs < 18446744073709551616) → c.length + fl.length * 1000 < 900000 →
    ∃ m_lot m_times m_own m_size, forL (bindS (exSs ph_counts_taken_de42 1000000 bd_counts_taken_de42_2) (.tup [.one 2, .one 3])) (fl.map flX) [some (.fro (p)), some (.own (dk c)), l_lot, l_times, l_own, l_size] = .nx [some (.fro (p)), some (.own (dk (fl.foldl (fun c q => addAll c (timesL (cnt q.1) q.2)) c))), m_lot, m_times, m_own, m_size]
  | [], c, _, _, _, _, _, _ => ⟨_, _, _, _, rfl⟩
  | q :: fl, c, l1, l2, l3, l4, h, hc => by
    rw [List.length_cons] at hc
    obtain ⟨hq1, hq2⟩ := h q (by simp)
    have hcl := cnt_len q.1
    have hll := len_all (timesL (cnt q.1) q.2) c
    have htl : (timesL (cnt q.1) q.2).length = (cnt q.1).length := by unfold timesL; rw [List.length_map]
    have hco := cof_e975 (L := q.1) (p := xI q.1) (.inr (.inr rfl)) (by omega)
    obtain ⟨m, e⟩ := ctx_in (p := p) (L := q.1) (t := q.2) (cnt_nd q.1) hq2 (cnt q.1) c l4 (fun r hr => hr) (by omega)
    have hk := keys_dk (cnt q.1)
    obtain ⟨m1, m2, m3, m4, e5⟩ := ctx_out hp fl (addAll c (timesL (cnt q.1) q.2)) (some (.fro (xI q.1))) (some (.fro (.int q.2))) (some (.own (dk (cnt q.1)))) (thinO m) (fun r hr => h r (by simp [hr])) (by omega)
    refine ⟨m1, m2, m3, m4, ?_⟩
    rw [List.map_cons]
    unfold forL
    have E : bindS (exSs ph_counts_taken_de42 1000000 bd_counts_taken_de42_2) (.tup [.one 2, .one 3]) (flX q) [some (.fro (p)), some (.own (dk c)), (l1), (l2), (l3), (l4)] = .nx [some (.fro (p)), some (.own (dk (addAll c (timesL (cnt q.1) q.2)))), some (.fro (xI q.1)), some (.fro (.int (q.2))), some (.own (dk (cnt q.1))), (thinO m)] := by
      simp -implicitDefEqProofs [evx, bd_counts_taken_de42_2, ph_counts_taken_de42, flX, hco, hk, e, hp, noDs_fn]
    rw [E]
    exact e5
theorem ctakx_de42 {fl : List (List Int × Int)} {p : PV} (hp : FlX fl p) (h : ∀ q ∈ fl, q.1.length ≤ 1000 ∧ q.2.natAbs < 18446744073709551616) (hl : fl.length ≤ 800) : g_counts_taken_de42 [.fro p] = .ok (.own (dk (takes fl))) [.fro p] := by
  obtain ⟨m1, m2, m3, m4, e⟩ := ctx_out hp.noD fl [] none none none none h (by simp; omega)
  have e : forL (bindS (exSs ph_counts_taken_de42 1000000 bd_counts_taken_de42_2) (.tup [.one 2, .one 3])) (fl.map flX) [some (.fro p), some (.own (.dK [] [])), none, none, none, none] = _ := e
  have hlm : fl.length ≤ 1000000 := by omega
  rcases hp with rfl | rfl | rfl
  all_goals
    (unfold g_counts_taken_de42 ir_counts_taken_de42; rw [runFn_eq _ _ _ _ ⟨rfl, by decide, rfl⟩])
    simp -implicitDefEqProofs [evx, e, hlm, takes]
set_option maxHeartbeats 0
def ir_is_size_8851 : Fn := ⟨1, 1, [0], [.ret (.and (.call 455 [.ref 0]) (.chain .le .le (.cst (.int 1)) (.var 0) (.cst (.int 1000000000000))))]⟩
def ph_is_size_8851 : Nat → List LV → CR := fun j => match j with | 455 => g_is_whole_15c9 | _ => fun _ => .st
def g_is_size_8851 : List LV → CR := runFn ph_is_size_8851 1000000 ir_is_size_8851
-- use: U_known U_list U_cts U_pool
theorem issz_8851 (n : Int) : g_is_size_8851 [.fro (.int n)] = .ok (.fro (.bl (decide (1 ≤ n ∧ n ≤ 1000000000000)))) [.fro (.int n)] := by
  have e := iswh_15c9 n
  (unfold g_is_size_8851 ir_is_size_8851; rw [runFn_eq _ _ _ _ ⟨rfl, by decide, rfl⟩])
  by_cases c1 : 1 ≤ n <;> by_cases c2 : n ≤ 1000000000000 <;> simp -implicitDefEqProofs [evx, ph_is_size_8851, e, c1, c2]
set_option maxHeartbeats 0
def bd_taken_from_7a45_1 : List Br.St := [.setIx 2 (.var 3) (.app .sub [.val (.mth .dget (.ref 2) [.ref 3, .val (.cst (.int 0))]), .val (.app .idx [.ref 1, .ref 3])]), .ite (.e (.app .lt [.val (.app .idx [.ref 2, .ref 3]), .val (.cst (.int 0))])) [.ret (.cst .non)] []]
def ir_taken_from_7a45 : Fn := ⟨4, 2, [0, 1], [.set 2 (.app .dict1 [.val (.app .idx [.ref 0, .val (.cst (.int 1))])]), .for (.lock 1 false) (.one 3) bd_taken_from_7a45_1, .ret (.call 421 [.val (.app .idx [.ref 0, .val (.cst (.int 0))]), .ref 2])]⟩
def ph_taken_from_7a45 : Nat → List LV → CR := fun j => match j with | 421 => g_counted_heap_7b0d | _ => fun _ => .st
def g_taken_from_7a45 : List LV → CR := runFn ph_taken_from_7a45 1000000 ir_taken_from_7a45
-- use: U_cts U_pool
/-- what is taken, less than none -/
def negL (l : List (Int × Int)) : List (Int × Int) := l.map fun q => (q.1, -q.2)
theorem tf_loop {kv : List (Int × Int)} {p : PV} (nd : (keysL kv).Nodup) : ∀ (l c : List (Int × Int)) (l_size : Option LV), (∀ q ∈ l, q ∈ kv) → (keysL l).Nodup → c.length + l.length < 1000000 →
    ((∀ q ∈ l, q.2 ≤ tally c q.1) → ∃ m_size, forL (bindS (exSs ph_taken_from_7a45 1000000 bd_taken_from_7a45_1) (.one 3)) ((keysL l).map .int) [some (.fro (p)), some (.fro (dk kv)), some (.own (dk c)), (l_size)] = .nx [some (.fro (p)), some (.fro (dk kv)), some (.own (dk (addAll c (negL l)))), (m_size)]) ∧
    ((∃ q ∈ l, tally c q.1 < q.2) → ∃ c' m_size, forL (bindS (exSs ph_taken_from_7a45 1000000 bd_taken_from_7a45_1) (.one 3)) ((keysL l).map .int) [some (.fro (p)), some (.fro (dk kv)), some (.own (dk c)), (l_size)] = .rt (.fro .non) [some (.fro (p)), some (.fro (dk kv)), some (.own (dk c')), (m_size)])
  | [], c, s, _, _, _ => ⟨fun _ => ⟨s, rfl⟩, fun ⟨q, h, _⟩ => absurd h (by simp)⟩
  | q :: l, c, s, hs, hn, hc => by
    rw [List.length_cons] at hc
    have hl := len_add c q.1 (-q.2)
    have hkv := hs q (by simp)
    have hk : q.1 ∈ keysL kv := by unfold keysL; exact List.mem_map_of_mem hkv
    have hv := tally_mem nd hkv
    have hn' : q.1 ∉ keysL l ∧ (keysL l).Nodup := by
      unfold keysL at hn ⊢
      rw [List.map_cons, List.nodup_cons] at hn
      exact hn
    obtain ⟨i1, i2⟩ := tf_loop (p := p) nd l (addL c q.1 (-q.2)) (some (.fro (.int q.1))) (fun r hr => hs r (by simp [hr])) hn'.2 (by omega)
    have oth : ∀ r ∈ l, tally (addL c q.1 (-q.2)) r.1 = tally c r.1 := fun r hr => by
      rw [tally_add, if_neg, Int.add_zero]
      intro z
      refine hn'.1 ?_
      unfold keysL
      rw [← z]
      exact List.mem_map_of_mem hr
    have e1 : keysL (q :: l) = q.1 :: keysL l := rfl
    have hp := dk_put c q.1 (tally c q.1 - q.2) (by omega)
    have hi := idx_dk hk
    rw [hv] at hi
    have hm : q.1 ∈ keysL (putL q.1 (tally c q.1 - q.2) c) := (putL_keys q.1 _ q.1 c).mpr (.inl rfl)
    have hi2 := idx_dk hm
    rw [tally_put, if_pos rfl] at hi2
    have ea : putL q.1 (tally c q.1 - q.2) c = addL c q.1 (-q.2) := by unfold addL; rw [Int.sub_eq_add_neg]
    rw [ea] at hi2 hp
    rw [e1, List.map_cons]
    unfold forL
    by_cases z : tally c q.1 < q.2
    · have z2 : tally c q.1 - q.2 < 0 := by omega
      have E : bindS (exSs ph_taken_from_7a45 1000000 bd_taken_from_7a45_1) (.one 3) (.int q.1) [some (.fro (p)), some (.fro (dk kv)), some (.own (dk c)), (s)] = .rt (.fro .non) [some (.fro (p)), some (.fro (dk kv)), some (.own (dk (addL c q.1 (-q.2)))), some (.fro (.int (q.1)))] := by
        simp -implicitDefEqProofs [evx, bd_taken_from_7a45_1, -dgetP, dget_dk, -setIxP, hp, -idxP, hi, hi2, z2]
      rw [E]
      refine ⟨fun h => absurd (h q (by simp)) (by omega), fun _ => ⟨_, _, rfl⟩⟩
    · have z2 : ¬ tally c q.1 - q.2 < 0 := by omega
      have E : bindS (exSs ph_taken_from_7a45 1000000 bd_taken_from_7a45_1) (.one 3) (.int q.1) [some (.fro (p)), some (.fro (dk kv)), some (.own (dk c)), (s)] = .nx [some (.fro (p)), some (.fro (dk kv)), some (.own (dk (addL c q.1 (-q.2)))), some (.fro (.int (q.1)))] := by
        simp -implicitDefEqProofs [evx, bd_taken_from_7a45_1, -dgetP, dget_dk, -setIxP, hp, -idxP, hi, hi2, z2]
      rw [E]
      refine ⟨fun h => ?_, fun ⟨r, hr, h⟩ => ?_⟩
      · exact i1 fun r hr => by rw [oth r hr]; exact h r (by simp [hr])
      · rcases List.mem_cons.mp hr with rfl | hr
        · exact absurd h z
        · exact i2 ⟨r, hr, by rw [oth r hr]; exact h⟩
theorem keys_neg (l : List (Int × Int)) : keysL (negL l) = keysL l := by
  unfold keysL negL
  rw [List.map_map]
  rfl
theorem tfrom_7a45 {n : Int} {ks kv : List (Int × Int)} (nk : (keysL ks).Nodup) (nv : (keysL kv).Nodup) (hl1 : ks.length ≤ 1000) (hl2 : kv.length ≤ 100000) :
    ((∀ q ∈ kv, q.2 ≤ tally ks q.1) → (addAll ks (negL kv)).length < 64 → g_taken_from_7a45 [.fro (hp n ks), .own (dk kv)] = .ok (.fro (hp n (canon (addAll ks (negL kv))))) [.fro (hp n ks), .own (dk kv)]) ∧
    ((∃ q ∈ kv, tally ks q.1 < q.2) → g_taken_from_7a45 [.fro (hp n ks), .own (dk kv)] = .ok (.fro .non) [.fro (hp n ks), .own (dk kv)]) := by
  have hd := dict_prs nk (by omega)
  have hk := keys_dk kv
  obtain ⟨l1, l2⟩ := tf_loop (p := hp n ks) nv kv ks none (fun q h => h) nv (by omega)
  have nn : (keysL (addAll ks (negL kv))).Nodup := nd_all _ nk
  refine ⟨fun h hlen => ?_, fun h => ?_⟩
  · obtain ⟨m, e⟩ := l1 h
    have ch := chp_7b0d (n := n) (.inl rfl) nn hlen
    (unfold g_taken_from_7a45 ir_taken_from_7a45; rw [runFn_eq _ _ _ _ ⟨rfl, by decide, rfl⟩])
    simp -implicitDefEqProofs [evx, -dict1P, hd, hk, e, noDs_fn, noDs_prs, ch, ph_taken_from_7a45]
  · obtain ⟨c', m, e⟩ := l2 h
    (unfold g_taken_from_7a45 ir_taken_from_7a45; rw [runFn_eq _ _ _ _ ⟨rfl, by decide, rfl⟩])
    simp -implicitDefEqProofs [evx, -dict1P, hd, hk, e, noDs_fn, noDs_prs, ph_taken_from_7a45]
set_option maxHeartbeats 0
-- use: U_cts U_ptog U_tdict
theorem used_addT (c : List (List Int × Int)) (M : List Int) (t : Int) (k : Int) : used (addT c M t) k = used c k + (M.count k : Int) * t := sum_putT (fun q v => (q.count k : Int) * v) (fun _ _ _ => Int.mul_add _ _ _) M t
theorem addT_mem {c : List (List Int × Int)} {M : List Int} {t : Int} (nd : (keysTL c).Nodup) {q : List Int × Int} (h : q ∈ addT c M t) : (q.1 = M ∧ q.2 = tallyT c M + t) ∨ q ∈ c := by
  have n2 : (keysTL (addT c M t)).Nodup := putT_nd nd
  have h1 := tallyT_mem n2 h
  unfold addT at h1
  rw [tallyT_put] at h1
  by_cases e : q.1 = M
  · rw [if_pos e] at h1
    exact .inl ⟨e, h1.symm⟩
  · rw [if_neg e] at h1
    have hk : q.1 ∈ keysTL (addT c M t) := List.mem_map_of_mem h
    have hk := ((putT_keys _ _ _ _).mp hk).resolve_left e
    obtain ⟨p, hp, ep⟩ := List.mem_map.mp hk
    have h2 := tallyT_mem nd hp
    rw [ep] at h2
    have : q = p := Prod.ext ep.symm (by rw [← h1, h2])
    rw [this]
    exact .inr hp
/-- full lots of a heap -/
def FilP (n : Int) (ks : List (Int × Int)) (c : List (List Int × Int)) : Prop := (keysTL c).Nodup ∧ (∀ q ∈ c, LotOk q.1 ∧ n ≤ q.1.sum ∧ 1 ≤ q.2) ∧ ∀ k, used c k ≤ tally ks k
theorem filP_add {n : Int} {ks : List (Int × Int)} {c : List (List Int × Int)} (F : FilP n ks c) {M : List Int} (h1 : LotOk M) (h2 : n ≤ M.sum) {t : Int} (ht : 1 ≤ t) (hr : ∀ x, (M.count x : Int) * t ≤ tally ks x - used c x) : FilP n ks (addT c M t) := by
  obtain ⟨f1, f2, f3⟩ := F
  refine ⟨putT_nd f1, fun q hq => ?_, fun k => ?_⟩
  · rcases addT_mem f1 hq with ⟨e1, e2⟩ | h
    · refine ⟨by rw [e1]; exact h1, by rw [e1]; exact h2, ?_⟩
      rw [e2]
      by_cases k : M ∈ keysTL c
      · obtain ⟨p, hp, ep⟩ := List.mem_map.mp k
        have h2 := tallyT_mem f1 hp
        have := (f2 p hp).2.2
        rw [ep] at h2
        omega
      · rw [tallyT_none k]
        omega
    · exact f2 q h
  · rw [used_addT]
    have := hr k
    omega
/-- a lot's times are at most the most things of a size -/
theorem filP_times {n N : Int} {ks : List (Int × Int)} {c : List (List Int × Int)} (F : FilP n ks c) (h : ∀ k, tally ks k ≤ N) : ∀ q ∈ c, q.2 ≤ N := fun q hq => by
  obtain ⟨⟨l1, _, _, _⟩, _, t1⟩ := F.2.1 q hq
  obtain ⟨x, hx⟩ := List.exists_mem_of_length_pos (show 0 < q.1.length by omega)
  have h1 : (q.1.count x : Int) * q.2 ≤ used c x := by
    have go : ∀ l : List (List Int × Int), (∀ p ∈ l, (0 : Int) ≤ p.2) → q ∈ l → (q.1.count x : Int) * q.2 ≤ used l x := fun l => by
      induction l with
      | nil => intro _ h; cases h
      | cons p l ih =>
        intro h0 hm
        rw [used_cons]
        have n1 : 0 ≤ used l x := used_nn fun r hr => h0 r (by simp [hr])
        have n2 : 0 ≤ (p.1.count x : Int) * p.2 := Int.mul_nonneg (by omega) (h0 p (by simp))
        rcases List.mem_cons.mp hm with e | hm
        · rw [e]; omega
        · have := ih (fun r hr => h0 r (by simp [hr])) hm
          omega
    exact go c (fun p hp => by have := (F.2.1 p hp).2.2; omega) hq
  have h2 := F.2.2 x
  have h3 := h x
  have h4 : (1 : Int) ≤ (q.1.count x : Int) := by have := List.count_pos_iff.mpr hx; omega
  have h5 : 1 * q.2 ≤ (q.1.count x : Int) * q.2 := Int.mul_le_mul_of_nonneg_right h4 (by omega)
  omega
theorem tk_le {ks : List (Int × Int)} {N : Int} (hN : 0 ≤ N) (nd : (keysL ks).Nodup) (h : ∀ q ∈ ks, q.2 ≤ N) (k : Int) : tally ks k ≤ N := by
  by_cases z : k ∈ keysL ks
  · obtain ⟨q, hq, rfl⟩ := List.mem_map.mp z
    rw [tally_mem nd hq]
    exact h q hq
  · rw [tally_none z]; exact hN
set_option maxHeartbeats 0
namespace Sx
theorem getD_lt {α : Type} {l : List α} {k : Nat} {d : α} (h : k < l.length) : l.getD k d = l[k] := by simp [List.getD, List.getElem?_eq_getElem h]
@[elab_as_elim] theorem upI {m : Nat} {P : (n : Nat) → m ≤ n → Prop} (base : P m (Nat.le_refl m)) (succ : ∀ n (h : m ≤ n), P n h → P (n + 1) (Nat.le_succ_of_le h)) (n : Nat) (h : m ≤ n) : P n h := by
  obtain ⟨k, rfl⟩ := Nat.exists_eq_add_of_le h
  induction k with
  | zero => exact base
  | succ k ih => exact succ (m + k) (Nat.le_add_right _ _) (ih _)
/-! alternating sums over lists of places -/
abbrev Vec := Nat → Int
def wd (v : Vec) : List Nat → (List Nat → Int) → Int
  | [], _ => 0
  | s :: S, f => v s * f S - wd v S (fun T => f (s :: T))
def dtm : List Vec → List Nat → Int
  | [], S => if S = [] then 1 else 0
  | v :: vs, S => wd v S (dtm vs)
theorem wd_addv (a b : Vec) : ∀ (S : List Nat) (f : List Nat → Int), wd (fun c => a c + b c) S f = wd a S f + wd b S f
  | [], f => by simp [wd]
  | s :: S, f => by simp only [wd, wd_addv a b S]; grind
theorem wd_smulv (k : Int) (a : Vec) : ∀ (S : List Nat) (f : List Nat → Int), wd (fun c => k * a c) S f = k * wd a S f
  | [], f => by simp [wd]
  | s :: S, f => by simp only [wd, wd_smulv k a S]; grind
theorem wd_addf (v : Vec) : ∀ (S : List Nat) (f g : List Nat → Int), wd v S (fun T => f T + g T) = wd v S f + wd v S g
  | [], f, g => by simp [wd]
  | s :: S, f, g => by simp only [wd, wd_addf v S]; grind
theorem wd_smulf (v : Vec) (k : Int) : ∀ (S : List Nat) (f : List Nat → Int), wd v S (fun T => k * f T) = k * wd v S f
  | [], f => by simp [wd]
  | s :: S, f => by simp only [wd, wd_smulf v k S]; grind
theorem wd_0f (v : Vec) : ∀ (S : List Nat), wd v S (fun _ => 0) = 0
  | [] => by simp [wd]
  | s :: S => by simp [wd, wd_0f v S]
theorem wd_negf (v : Vec) (S : List Nat) (f : List Nat → Int) : wd v S (fun T => - f T) = - wd v S f := by
  have := wd_smulf v (-1) S f
  simpa using this
theorem wd_subf (v : Vec) (S : List Nat) (f g : List Nat → Int) : wd v S (fun T => f T - g T) = wd v S f - wd v S g := by
  have := wd_addf v S f (fun T => - g T)
  rw [wd_negf] at this
  simpa [Int.sub_eq_add_neg] using this
theorem wd_wd (v : Vec) : ∀ (S : List Nat) (f : List Nat → Int), wd v S (fun T => wd v T f) = 0
  | [], f => by simp [wd]
  | s :: S, f => by
    simp only [wd]
    rw [wd_subf, wd_smulf, wd_wd v S]
    grind
theorem wd_anti (v w : Vec) (S : List Nat) (f : List Nat → Int) : wd v S (fun T => wd w T f) = - wd w S (fun T => wd v T f) := by
  have h := wd_wd (fun c => v c + w c) S f
  have e : (fun T => wd (fun c => v c + w c) T f) = fun T => wd v T f + wd w T f := by funext T; rw [wd_addv]
  rw [e, wd_addv, wd_addf, wd_addf, wd_wd, wd_wd] at h
  omega
theorem wd_congr {v w : Vec} : ∀ (S : List Nat) (f : List Nat → Int), (∀ c ∈ S, v c = w c) → wd v S f = wd w S f
  | [], f, _ => rfl
  | s :: S, f, h => by
    simp only [wd]
    rw [h s (by simp), wd_congr S _ fun c hc => h c (by simp [hc])]
/-- a vector twice -/
theorem dt_mem {v : Vec} : ∀ {vs : List Vec} (S : List Nat), v ∈ vs → wd v S (dtm vs) = 0
  | u :: us, S, h => by
    show wd v S (fun T => wd u T (dtm us)) = 0
    by_cases e : v = u
    · subst e; exact wd_wd _ _ _
    · rw [wd_anti]
      have : (fun T => wd v T (dtm us)) = fun _ => 0 := by
        funext T
        exact dt_mem T (by simpa [e] using h)
      rw [this, wd_0f]; rfl
theorem dt_dup {v : Vec} : ∀ {vs : List Vec} {k j : Nat} (S : List Nat), k ≠ j → k < vs.length → vs[j]? = some v → dtm (vs.set k v) S = 0
  | [], k, j, S, _, hk, _ => by simp at hk
  | u :: us, 0, 0, S, h, _, _ => absurd rfl h
  | u :: us, 0, j + 1, S, h, _, e => by
    show wd v S (dtm us) = 0
    exact dt_mem S (List.mem_of_getElem? (by simpa using e))
  | u :: us, k + 1, 0, S, h, hk, e => by
    have e : u = v := by simpa using e
    subst e
    show wd u S (dtm (us.set k u)) = 0
    exact dt_mem S (by rw [List.mem_iff_getElem?]; exact ⟨k, by rw [List.getElem?_set_self (by simpa using hk)]⟩)
  | u :: us, k + 1, j + 1, S, h, hk, e => by
    show wd u S (dtm (us.set k v)) = 0
    have : dtm (us.set k v) = fun _ => 0 := by
      funext T
      exact dt_dup (k := k) (j := j) T (by omega) (by simpa using hk) (by simpa using e)
    rw [this, wd_0f]
theorem dt_add (a b : Vec) : ∀ {vs : List Vec} {k : Nat} (S : List Nat), k < vs.length → dtm (vs.set k fun c => a c + b c) S = dtm (vs.set k a) S + dtm (vs.set k b) S
  | [], k, S, h => by simp at h
  | u :: us, 0, S, _ => wd_addv a b S _
  | u :: us, k + 1, S, h => by
    show wd u S (dtm (us.set k fun c => a c + b c)) = wd u S (dtm (us.set k a)) + wd u S (dtm (us.set k b))
    rw [← wd_addf]
    congr 1
    funext T
    exact dt_add a b T (by simpa using h)
theorem dt_smul (q : Int) (a : Vec) : ∀ {vs : List Vec} {k : Nat} (S : List Nat), k < vs.length → dtm (vs.set k fun c => q * a c) S = q * dtm (vs.set k a) S
  | [], k, S, h => by simp at h
  | u :: us, 0, S, _ => wd_smulv q a S _
  | u :: us, k + 1, S, h => by
    show wd u S (dtm (us.set k fun c => q * a c)) = q * wd u S (dtm (us.set k a))
    rw [← wd_smulf]
    congr 1
    funext T
    exact dt_smul q a T (by simpa using h)
theorem dt_congr {a b : Vec} : ∀ {vs : List Vec} {k : Nat} (S : List Nat), k < vs.length → (∀ c ∈ S, a c = b c) → dtm (vs.set k a) S = dtm (vs.set k b) S
  | [], k, S, h, _ => by simp at h
  | u :: us, 0, S, _, e => wd_congr S _ e
  | u :: us, k + 1, S, h, e => by
    show wd u S (dtm (us.set k a)) = wd u S (dtm (us.set k b))
    suffices H : ∀ (S : List Nat) (f g : List Nat → Int) (R : List Nat), (∀ c ∈ S, a c = b c) → (∀ T, (∀ c ∈ T, c ∈ S) → f T = g T) → wd u S f = wd u S g from
      H S _ _ [] e fun T hT => dt_congr T (by simpa using h) fun c hc => e c (hT c hc)
    intro S
    induction S with
    | nil => intro f g R _ _; rfl
    | cons s S ih =>
      intro f g R e h
      simp only [wd]
      rw [h S (by simp +contextual), ih _ _ R (fun c hc => e c (by simp [hc])) fun T hT => h _ (by
        intro c hc
        rcases List.mem_cons.mp hc with rfl | hc
        · simp
        · simp [hT c hc])]
/-- sums over places -/
def sg : Nat → (Nat → Int) → Int
  | 0, _ => 0
  | n + 1, f => f 0 + sg n fun k => f (k + 1)
theorem sg_congr : ∀ {n : Nat} {f g : Nat → Int}, (∀ k < n, f k = g k) → sg n f = sg n g
  | 0, _, _, _ => rfl
  | n + 1, f, g, h => by
    simp only [sg]
    rw [h 0 (by omega), sg_congr fun k hk => h (k + 1) (by omega)]
theorem sg_mul (q : Int) : ∀ (n : Nat) (f : Nat → Int), sg n (fun k => q * f k) = q * sg n f
  | 0, _ => by simp [sg]
  | n + 1, f => by simp only [sg, sg_mul q n]; grind
theorem sg_0 : ∀ (n : Nat), sg n (fun _ => 0) = 0
  | 0 => rfl
  | n + 1 => by simp [sg, sg_0 n]
/-- one place split off -/
theorem sg_at : ∀ {n i : Nat} (f : Nat → Int), i < n → sg n f = f i + sg n (fun k => if k = i then 0 else f k)
  | 0, i, f, h => by omega
  | n + 1, 0, f, _ => by
    simp only [sg, if_true]
    rw [Int.zero_add]
    congr 1
  | n + 1, i + 1, f, h => by
    simp only [sg]
    rw [sg_at (i := i) (fun k => f (k + 1)) (by omega), if_neg (by omega)]
    have : (fun k => if k + 1 = i + 1 then (0 : Int) else f (k + 1)) = fun k => if k = i then 0 else f (k + 1) := by funext k; simp
    rw [this]
    omega
theorem sg_last : ∀ (n : Nat) (f : Nat → Int), sg (n + 1) f = sg n f + f n
  | 0, f => by simp [sg]
  | n + 1, f => by
    rw [sg, sg_last n]
    simp only [sg]
    omega
/-- a vector that is a sum -/
theorem dt_sum {vs : List Vec} {r : Nat} (S : List Nat) (hr : r < vs.length) : ∀ (n : Nat) (al : Nat → Int) (x : Nat → Vec), dtm (vs.set r fun c => sg n fun k => al k * x k c) S = sg n fun k => al k * dtm (vs.set r (x k)) S
  | 0, al, x => by
    have h := dt_smul 0 (fun _ => 0) (vs := vs) (k := r) S hr
    simpa [sg] using h
  | n + 1, al, x => by
    simp only [sg]
    rw [dt_add _ _ S hr, dt_smul _ _ S hr, dt_sum S hr n (fun k => al (k + 1)) fun k => x (k + 1)]
/-- two places exchanged -/
theorem dt_swap {vs : List Vec} {i r : Nat} (S : List Nat) (a b : Vec) (hi : i < vs.length) (hr : r < vs.length) (h : i ≠ r) : dtm ((vs.set i a).set r b) S = - dtm ((vs.set i b).set r a) S := by
  have dup : ∀ x : Vec, dtm ((vs.set i x).set r x) S = 0 := fun x => dt_dup (j := i) S (by omega) (by simpa using hr) (by rw [List.getElem?_set_self hi])
  have e := dup fun c => a c + b c
  rw [dt_add _ _ S (by simpa using hr), List.set_comm _ _ h, List.set_comm _ _ h, dt_add _ _ S (by simpa using hi), dt_add _ _ S (by simpa using hi), List.set_comm _ _ h.symm, List.set_comm _ _ h.symm, List.set_comm _ _ h.symm, List.set_comm _ _ h.symm, dup, dup] at e
  omega
theorem dt_swap0 {u v : Vec} {us : List Vec} {k : Nat} (S : List Nat) (hk : k < us.length) : dtm (u :: us.set k v) S = - dtm (v :: us.set k u) S :=
  dt_swap (vs := u :: us) (i := 0) (r := k + 1) S u v (by simp) (by simpa using hk) (by omega)
/-! one place more in front -/
theorem dt_front (c : Nat) : ∀ (vs : List Vec) (u : Vec) (S : List Nat), dtm (u :: vs) (c :: S) = u c * dtm vs S - sg vs.length fun k => (vs.getD k fun _ => 0) c * dtm (vs.set k u) S
  | [], u, S => by
    show u c * dtm [] S - wd u S (fun T => dtm [] (c :: T)) = _
    have : (fun T => dtm [] (c :: T)) = fun _ => 0 := by funext T; simp [dtm]
    rw [this, wd_0f]
    simp [sg]
  | v :: vs, u, S => by
    show u c * dtm (v :: vs) S - wd u S (fun T => dtm (v :: vs) (c :: T)) = _
    have : (fun T => dtm (v :: vs) (c :: T)) = fun T => v c * dtm vs T - sg vs.length fun k => (vs.getD k fun _ => 0) c * dtm (vs.set k v) T := by
      funext T; exact dt_front c vs v T
    rw [this, wd_subf, wd_smulf]
    have ws : ∀ (n : Nat) (al : Nat → Int) (g : Nat → List Nat → Int), wd u S (fun T => sg n fun k => al k * g k T) = sg n fun k => al k * wd u S (g k) := by
      intro n
      induction n with
      | zero => intro al g; simp [sg, wd_0f]
      | succ n ih =>
        intro al g
        simp only [sg]
        rw [wd_addf, wd_smulf, ih]
    rw [ws vs.length (fun k => (vs.getD k fun _ => 0) c) fun k => dtm (vs.set k v)]
    simp only [List.length_cons, sg, List.getD_cons_zero, List.getD_cons_succ, List.set_cons_zero, List.set_cons_succ]
    have e : (sg vs.length fun k => (vs.getD k fun _ => 0) c * wd u S (dtm (vs.set k v))) = - sg vs.length fun k => (vs.getD k fun _ => 0) c * dtm (v :: vs.set k u) S := by
      have : (fun k => (vs.getD k fun _ => 0) c * dtm (v :: vs.set k u) S) = fun k => (vs.getD k fun _ => 0) c * dtm (v :: vs.set k u) S := rfl
      have h2 := sg_mul (-1) vs.length fun k => (vs.getD k fun _ => 0) c * dtm (v :: vs.set k u) S
      rw [show - (sg vs.length fun k => (vs.getD k fun _ => 0) c * dtm (v :: vs.set k u) S) = -1 * (sg vs.length fun k => (vs.getD k fun _ => 0) c * dtm (v :: vs.set k u) S) by omega, ← h2]
      refine sg_congr fun k hk => ?_
      have := dt_swap0 (u := u) (v := v) (us := vs) S hk
      have e1 : dtm (u :: vs.set k v) S = wd u S (dtm (vs.set k v)) := rfl
      rw [← e1, this]
      grind
    rw [e]
    show _ - (v c * wd u S (dtm vs) - _) = _ - (v c * dtm (u :: vs) S + _)
    have e2 : dtm (u :: vs) S = wd u S (dtm vs) := rfl
    rw [e2]
    omega
/-- alternating in the places -/
def Alt (f : List Nat → Int) : Prop := ∀ A s t B, f (A ++ s :: t :: B) = - f (A ++ t :: s :: B)
theorem wd_alt (v : Vec) : ∀ (A : List Nat) (s t : Nat) (B : List Nat) (f : List Nat → Int), Alt f → wd v (A ++ s :: t :: B) f = - wd v (A ++ t :: s :: B) f
  | [], s, t, B, f, h => by
    simp only [List.nil_append, wd]
    have : (fun T => f (s :: t :: T)) = fun T => - f (t :: s :: T) := by funext T; exact h [] s t T
    rw [this, wd_negf]
    omega
  | a :: A, s, t, B, f, h => by
    simp only [List.cons_append, wd]
    rw [h A s t B, wd_alt v A s t B _ fun A' s' t' B' => h (a :: A') s' t' B']
    grind
theorem dt_alt : ∀ (vs : List Vec), Alt (dtm vs)
  | [] => fun A s t B => by simp [dtm]
  | v :: vs => fun A s t B => wd_alt v A s t B _ (dt_alt vs)
theorem alt_mem : ∀ (A : List Nat) (c : Nat) (B : List Nat) (f : List Nat → Int), Alt f → f (c :: (A ++ c :: B)) = 0
  | [], c, B, f, h => by
    have := h [] c c B
    simp only [List.nil_append] at this ⊢
    omega
  | a :: A, c, B, f, h => by
    have h1 := h [] c a (A ++ c :: B)
    simp only [List.nil_append, List.cons_append] at h1 ⊢
    rw [h1, alt_mem A c B (fun T => f (a :: T)) fun A' s t B' => h (a :: A') s t B']
    rfl
/-- CRAMER -/
theorem cramer (vs : List Vec) (u : Vec) (S : List Nat) {c : Nat} (hc : c ∈ S) : u c * dtm vs S = sg vs.length fun k => (vs.getD k fun _ => 0) c * dtm (vs.set k u) S := by
  have h1 := dt_front c vs u S
  obtain ⟨A, B, e⟩ := List.append_of_mem hc
  have h2 : dtm (u :: vs) (c :: S) = 0 := by rw [e]; exact alt_mem A c B _ (dt_alt _)
  omega
/-- the relation of four -/
theorem four (vs : List Vec) (u v : Vec) (S : List Nat) {i r : Nat} (hi : i < vs.length) (hr : r < vs.length) (h : i ≠ r) :
    dtm vs S * dtm ((vs.set r u).set i v) S = dtm (vs.set r u) S * dtm (vs.set i v) S - dtm (vs.set i u) S * dtm (vs.set r v) S := by
  have hr' : r < (vs.set i v).length := by simpa using hr
  have e1 : dtm vs S * dtm ((vs.set r u).set i v) S = dtm ((vs.set i v).set r fun c => dtm vs S * u c) S := by
    rw [dt_smul _ _ S hr', List.set_comm _ _ (Ne.symm h)]
  have e2 : dtm ((vs.set i v).set r fun c => dtm vs S * u c) S = dtm ((vs.set i v).set r fun c => sg vs.length fun k => dtm (vs.set k u) S * (vs.getD k fun _ => 0) c) S := by
    refine dt_congr S hr' fun c hc => ?_
    rw [Int.mul_comm, cramer vs u S hc]
    exact sg_congr fun k _ => Int.mul_comm _ _
  rw [e1, e2, dt_sum S hr']
  rw [sg_at _ hr, sg_at _ hi, sg_congr (g := fun _ => 0), sg_0]
  · rw [if_neg h]
    have g1 : (vs.set i v).set r (vs.getD r fun _ => 0) = vs.set i v := by
      apply List.ext_getElem (by simp)
      intro n h1 h2
      by_cases hn : n = r
      · subst hn
        rw [List.getElem_set_self, List.getElem_set_ne h, getD_lt hr]
      · rw [List.getElem_set_ne (Ne.symm hn)]
    have g2 : dtm ((vs.set i v).set r (vs.getD i fun _ => 0)) S = - dtm (vs.set r v) S := by
      rw [dt_swap S _ _ hi hr h]
      congr 2
      have : vs.set i (vs.getD i fun _ => 0) = vs := by
        rw [getD_lt hi]; exact List.set_getElem_self hi
      rw [this]
    rw [g1, g2]
    grind
  · intro k hk
    split
    · rfl
    split
    · rfl
    · rename_i n1 n2
      rw [dt_dup (j := k) S (by omega) hr' (by rw [List.getElem?_set_ne (by omega), getD_lt hk]; exact List.getElem?_eq_getElem hk)]
      simp
/-- the unit vectors -/
def un (s : Nat) : Vec := fun c => if c = s then 1 else 0
/-! a board of columns: its basis, its lines -/
structure LP where
  m : Nat
  n : Nat
  A : Nat → Nat → Int
  b : Nat → Int
namespace LP
def col (P : LP) (j : Nat) : Vec := fun c => if j = 0 then (if c < P.m then P.b c else 0) else if j ≤ P.n then (if c < P.m then P.A c (j - 1) else if c = P.m then -1 else 0) else if c = j - 1 - P.n then 1 else 0
def S (P : LP) : List Nat := List.range (P.m + 1)
def vs (P : LP) (h : List Nat) : List Vec := h.map P.col ++ [un P.m]
def D (P : LP) (h : List Nat) : Int := dtm (P.vs h) P.S
def T (P : LP) (h : List Nat) (i j : Nat) : Int := dtm ((P.vs h).set i (P.col j)) P.S
/-- what is behind the last row -/
def fi (P : LP) (h : List Nat) (u : Vec) : Int := dtm ((P.vs h).set P.m u) P.S
structure Good (P : LP) : Prop where
  nn : ∀ i j, i < P.m → j < P.n → 0 ≤ P.A i j
  ps : ∀ j, j < P.n → ∃ i, i < P.m ∧ 0 < P.A i j
  hb : ∀ i, i < P.m → 0 ≤ P.b i
structure Ok (P : LP) (h : List Nat) : Prop where
  len : h.length = P.m
  rg : ∀ j ∈ h, 1 ≤ j ∧ j ≤ P.n + P.m
  pos : 0 < P.D h
  fea : ∀ i, i < P.m → 0 ≤ P.T h i 0
section
variable {P : LP} {h : List Nat}
theorem vs_len (hl : h.length = P.m) : (P.vs h).length = P.m + 1 := by simp [vs, hl]
theorem vs_set (hl : h.length = P.m) {r p : Nat} (hr : r < P.m) : P.vs (h.set r p) = (P.vs h).set r (P.col p) := by
  unfold vs
  rw [List.set_append_left _ _ (by simpa [hl] using hr), List.map_set]
theorem vs_at (hl : h.length = P.m) {k : Nat} (hk : k < P.m) : (P.vs h)[k]? = some (P.col (h.getD k 0)) := by
  unfold vs
  rw [List.getElem?_append_left (by simpa [hl] using hk), List.getElem?_map, List.getElem?_eq_getElem (by omega), getD_lt (by omega)]
  rfl
theorem vs_m (hl : h.length = P.m) : (P.vs h)[P.m]? = some (un P.m) := by
  unfold vs
  rw [List.getElem?_append_right (by simp [hl])]
  simp [hl]
theorem set_self {l : List Vec} {k : Nat} {v : Vec} (e : l[k]? = some v) : l.set k v = l := by
  obtain ⟨hk, e⟩ := List.getElem?_eq_some_iff.mp e
  rw [← e]; exact List.set_getElem_self hk
theorem fi_own (hl : h.length = P.m) : P.fi h (un P.m) = P.D h := by
  unfold fi D
  rw [set_self (vs_m hl)]
theorem D_set (hl : h.length = P.m) {r p : Nat} (hr : r < P.m) : P.D (h.set r p) = P.T h r p := by
  unfold D T
  rw [vs_set hl hr]
theorem T_set_r (hl : h.length = P.m) {r p : Nat} (hr : r < P.m) (j : Nat) : P.T (h.set r p) r j = P.T h r j := by
  unfold T
  rw [vs_set hl hr, List.set_set]
theorem T_set (hl : h.length = P.m) {r p i : Nat} (hr : r < P.m) (hi : i ≤ P.m) (ne : i ≠ r) (j : Nat) : P.D h * P.T (h.set r p) i j = P.T h r p * P.T h i j - P.T h i p * P.T h r j := by
  unfold D T
  rw [vs_set hl hr]
  exact four (P.vs h) (P.col p) (P.col j) P.S (by rw [vs_len hl]; omega) (by rw [vs_len hl]; omega) ne
theorem cram (hl : h.length = P.m) (u : Vec) {c : Nat} (hc : c ≤ P.m) : u c * P.D h = (sg P.m fun k => P.col (h.getD k 0) c * dtm ((P.vs h).set k u) P.S) + un P.m c * P.fi h u := by
  have := cramer (P.vs h) u P.S (c := c) (by simp [S]; omega)
  rw [vs_len hl, sg_last] at this
  unfold D fi
  rw [this]
  have e1 : (P.vs h).getD P.m (fun _ => 0) = un P.m := by simp [List.getD, vs_m hl]
  rw [e1]
  congr 1
  refine sg_congr fun k hk => ?_
  have e2 : (P.vs h).getD k (fun _ => 0) = P.col (h.getD k 0) := by rw [List.getD, vs_at hl hk]; rfl
  rw [e2]
theorem cramT (hl : h.length = P.m) (j : Nat) {c : Nat} (hc : c ≤ P.m) : P.col j c * P.D h = (sg P.m fun k => P.col (h.getD k 0) c * P.T h k j) + un P.m c * P.T h P.m j := cram hl (P.col j) hc
theorem fi_sum (hl : h.length = P.m) (n : Nat) (al : Nat → Int) (x : Nat → Vec) : P.fi h (fun c => sg n fun k => al k * x k c) = sg n fun k => al k * P.fi h (x k) := dt_sum _ (by rw [vs_len hl]; omega) n al x
theorem fi_add (hl : h.length = P.m) (a b : Vec) : P.fi h (fun c => a c + b c) = P.fi h a + P.fi h b := dt_add a b _ (by rw [vs_len hl]; omega)
theorem fi_smul (hl : h.length = P.m) (q : Int) (a : Vec) : P.fi h (fun c => q * a c) = q * P.fi h a := dt_smul q a _ (by rw [vs_len hl]; omega)
theorem fi_congr (hl : h.length = P.m) {a b : Vec} (e : ∀ c ≤ P.m, a c = b c) : P.fi h a = P.fi h b := dt_congr _ (by rw [vs_len hl]; omega) fun c hc => e c (by simp [S] at hc; omega)
/-- two bases -/
theorem two {h1 h2 : List Nat} (l1 : h1.length = P.m) (l2 : h2.length = P.m) (s : Nat) :
    P.D h1 * P.T h2 P.m s = (sg P.m fun k => P.T h1 k s * P.T h2 P.m (h1.getD k 0)) + P.T h1 P.m s * P.D h2 := by
  have e : P.fi h2 (fun c => P.D h1 * P.col s c) = P.fi h2 (fun c => (sg P.m fun k => P.T h1 k s * P.col (h1.getD k 0) c) + P.T h1 P.m s * un P.m c) := by
    refine fi_congr l2 fun c hc => ?_
    rw [Int.mul_comm, cramT l1 s hc]
    congr 1
    · exact sg_congr fun k _ => Int.mul_comm _ _
    · exact Int.mul_comm _ _
  rw [fi_smul l2, fi_add l2, fi_sum l2, fi_smul l2, fi_own l2] at e
  exact e
/-! steps -/
/-- the row that a column takes over -/
structure IsLev (P : LP) (h : List Nat) (p r : Nat) : Prop where
  lt : r < P.m
  pos : 0 < P.T h r p
  min : ∀ i, i < P.m → 0 < P.T h i p → P.T h r 0 * P.T h i p ≤ P.T h i 0 * P.T h r p ∧ (P.T h r 0 * P.T h i p = P.T h i 0 * P.T h r p → h.getD r 0 ≤ h.getD i 0)
structure IsEnt (P : LP) (h : List Nat) (p : Nat) : Prop where
  one : 1 ≤ p
  le : p ≤ P.n + P.m
  neg : P.T h P.m p < 0
  fst : ∀ j, 1 ≤ j → j < p → 0 ≤ P.T h P.m j
theorem Ok.step (o : Ok P h) {p r : Nat} (hp : 1 ≤ p ∧ p ≤ P.n + P.m) (L : IsLev P h p r) : Ok P (h.set r p) := by
  refine ⟨by simpa using o.len, fun j hj => ?_, by rw [D_set o.len L.lt]; exact L.pos, fun i hi => ?_⟩
  · rcases List.mem_or_eq_of_mem_set hj with hj | rfl
    · exact o.rg j hj
    · exact hp
  · by_cases ne : i = r
    · subst ne
      rw [T_set_r o.len hi]
      exact o.fea i hi
    · have e := T_set (p := p) o.len L.lt (Nat.le_of_lt hi) ne 0
      have h1 : 0 ≤ P.T h r p * P.T h i 0 - P.T h i p * P.T h r 0 := by
        have a := o.fea i hi
        have b := o.fea r L.lt
        by_cases hs : 0 < P.T h i p
        · have := (L.min i hi hs).1
          rw [Int.mul_comm (P.T h r p), Int.mul_comm (P.T h i p)]
          omega
        · have c1 := Int.mul_nonneg (Int.le_of_lt L.pos) a
          have c2 := Int.mul_nonneg (show 0 ≤ - P.T h i p by omega) b
          rw [Int.neg_mul] at c2
          omega
      rw [← e] at h1
      exact Int.nonneg_of_mul_nonneg_right h1 o.pos
end
end LP
namespace LP
section
variable {P : LP} {h : List Nat}
/-- one turn -/
structure Turn (P : LP) (h : List Nat) (p r : Nat) (h' : List Nat) : Prop where
  ok : Ok P h
  ent : IsEnt P h p
  lev : IsLev P h p r
  eq : h' = h.set r p
end
end LP
/-! ### no basis comes again -/
section
variable {P : LP} (H : Nat → List Nat) (p r : Nat → Nat)
end
/-! ### the end is reached -/
/-! ### the beginning -/
/-! ### what the end tells -/
structure Fin (P : LP) (h : List Nat) : Prop where
  ok : P.Ok h
  gl : ∀ j, 1 ≤ j → j ≤ P.n + P.m → 0 ≤ P.T h P.m j
section
variable {P : LP} {h : List Nat}
end
end Sx
set_option maxHeartbeats 0
-- use: U_lp U_list U_comp
open Sx
/-! a board as it lies, and its numbers -/
/-! the numbers are small -/
/-- the board's numbers stay below -/
structure Bnd (P : LP) : Prop where
  m8 : P.m ≤ 8
  n3 : P.n ≤ 300
  hb : ∀ i, i < P.m → (P.b i).natAbs ≤ 10000000000000
  hA : ∀ i j, i < P.m → j < P.n → (P.A i j).natAbs ≤ 10000000000000
/-! reading rows -/
/-! the rules as functions -/
structure BestAt (P : LP) (h : List Nat) (p i b : Nat) : Prop where
  lt : b < i
  pos : 0 < P.T h b p
  min : ∀ k, k < i → 0 < P.T h k p → P.T h b 0 * P.T h k p ≤ P.T h k 0 * P.T h b p ∧ (P.T h b 0 * P.T h k p = P.T h k 0 * P.T h b p → h.getD b 0 ≤ h.getD k 0)
/-! the board that is made -/
set_option maxHeartbeats 0
/-- p by q is the ratio of a by b, in lowest terms -/
structure RatOf (a b p q : Int) : Prop where
  q1 : 1 ≤ q
  g : Int.gcd p q = 1
  e : p * b = a * q
  pa : p.natAbs ≤ a.natAbs
  qb : q.natAbs ≤ b.natAbs
theorem RatOf.neg {a b p q : Int} (r : RatOf (0 - a) (0 - b) p q) : RatOf a b p q := by
  refine ⟨r.q1, r.g, ?_, by have := r.pa; omega, by have := r.qb; omega⟩
  have := r.e
  rw [Int.zero_sub, Int.zero_sub, Int.mul_neg, Int.neg_mul] at this
  omega
set_option maxHeartbeats 0
-- use: BrD2 U_pool
theorem eqP_self {p : PV} (h : p.isD 60 = true) : eqP p p = true := PySem.SeqAt.eqv_refl _ (canLay_d 60 p h)
set_option maxHeartbeats 0
-- use: U_cts U_pool U_comp U_eq U_dict U_list BrF2
/-! heaps -/
theorem Kinds.nn {ks : List (Int × Int)} (hk : Kinds ks) (k : Int) : 0 ≤ tally ks k := by
  by_cases z : k ∈ keysL ks
  · unfold keysL at z
    obtain ⟨q, hq, rfl⟩ := List.mem_map.mp z
    rw [tally_mem hk.nd hq]
    have := hk.2 q hq
    omega
  · rw [tally_none z]; omega
theorem Kinds.key {ks : List (Int × Int)} (hk : Kinds ks) {k : Int} (h : k ∈ keysL ks) : 1 ≤ tally ks k := by
  unfold keysL at h
  obtain ⟨q, hq, rfl⟩ := List.mem_map.mp h
  rw [tally_mem hk.nd hq]
  have := hk.2 q hq
  omega
/-- a heap's kinds within bounds -/
structure HeapOk (ks : List (Int × Int)) : Prop where
  k : Kinds ks
  b : ∀ q ∈ ks, 1 ≤ q.1 ∧ q.1 ≤ 1000000000000 ∧ 1 ≤ q.2 ∧ q.2 ≤ 1000000000000
theorem HeapOk.s {ks : List (Int × Int)} (h : HeapOk ks) : ∀ q ∈ ks, 1 ≤ q.1 ∧ q.1 ≤ 1000000000000 := fun q hq => ⟨(h.b q hq).1, (h.b q hq).2.1⟩
theorem HeapOk.abs {ks : List (Int × Int)} (h : HeapOk ks) : ∀ q ∈ ks, q.1.natAbs < 18446744073709551616 := fun q hq => by have := h.s q hq; omega
set_option maxHeartbeats 0
-- use: U_ptog U_cts U_list
/-- one kind further -/
def stepW (F : List (List Int)) (m : Int) : List (List Int) := F.flatMap fun w => (List.range (m + 1).toNat).map fun t : Nat => w ++ [(t : Int)]
/-- all ways to take none to all of each kind -/
def waysK (ks : List (Int × Int)) : List (List Int) := ks.foldl (fun F q => stepW F q.2) [[]]
/-- how many ways -/
def nWays (ks : List (Int × Int)) : Int := ks.foldl (fun a q => a * (q.2 + 1)) 1
set_option maxHeartbeats 0
-- use: U_heap U_cts U_ptog U_ways
/-- how many things of a size it takes to be full -/
def lackN (n s : Int) (L : List Int) : Int := (n - L.sum + s - 1) / s
/-- how many at most -/
def topT (n : Int) (q : Int × Int) (L : List Int) : Nat := (if lackN n q.1 L < q.2 then lackN n q.1 L else q.2).toNat
abbrev repA (t : Nat) (s : Int) (L : List Int) : List Int := List.replicate t s ++ L
/-- all lean lots, the greatest size first -/
def LN (n : Int) : List (Int × Int) → List Int → List (List Int)
  | [], L => if n ≤ L.sum then [L] else []
  | q :: r, L => if n ≤ L.sum then [L] else (List.range (topT n q L + 1)).reverse.flatMap fun t => LN n r (repA t q.1 L)
/-- the lean lots of a heap -/
abbrev leansK (n : Int) (ks : List (Int × Int)) : List (List Int) := LN n ks.reverse []
def fewK (n : Int) (ks : List (Int × Int)) : Prop := (leansK n ks).length ≤ 300 ∧ ∀ M ∈ leansK n ks, M.length ≤ 60
instance (n : Int) (ks : List (Int × Int)) : Decidable (fewK n ks) := by unfold fewK; infer_instance
abbrev kv (b : Bool) (ks : List (Int × Int)) : PV := cond b (.xt (ks.map fun q => .tup [.int q.1, .int q.2])) (.tup (ks.map fun q => .tup [.int q.1, .int q.2]))
set_option maxHeartbeats 0
-- use: U_ways U_tdict U_ptog U_cts
/-! tables over all ways -/
/-- pairs in their order -/
def lt2 (a b : Int × Int) : Bool := if a.1 = b.1 then decide (a.2 < b.2) else decide (a.1 < b.1)
def mx2 (a b : Int × Int) : Int × Int := if lt2 a b = true then b else a
/-- what a thing makes of a pair -/
def putN (n : Int) (q : Int × Int) (s : Int) : Int × Int := if n ≤ q.2 + s then (q.1 + 1, 0) else (q.1, q.2 + s)
/-- places -/
def plK (ks : List (Int × Int)) (k : Nat) : Int := nWays (ks.drop (k + 1))
def belowK (ks : List (Int × Int)) (w : List Int) (a : Int) (m : Nat) : List (Int × Int) := (List.range m).filterMap fun k => if 0 < w.getD k 0 then some ((ks.getD k (0, 0)).1, a - plK ks k) else none
def bestT (n : Int) (T : List (Int × Int)) (bs : List (Int × Int)) : Int × Int := (bs.map fun b => putN n (T.getD b.2.toNat (0, 0)) b.1).foldl mx2 (0, 0)
def tabT (n : Int) (ks : List (Int × Int)) : Nat → List (Int × Int)
  | 0 => []
  | i + 1 => tabT n ks i ++ [bestT n (tabT n ks i) (belowK ks ((waysK ks).getD i []) i ks.length)]
theorem putVs_new {κ : Type} [DecidableEq κ] {k : κ} {p : PV} : ∀ {ks : List κ} {vs : List PV}, k ∉ ks → ks.length = vs.length → putVs k p ks vs = vs ++ [p]
  | [], [], _, _ => rfl
  | [], _ :: _, _, h => by simp at h
  | _ :: _, [], _, h => by simp at h
  | c :: cs, v :: vs, h, e => by
    unfold putVs
    rw [if_neg fun z => h (by simp [z]), putVs_new (fun z => h (List.mem_cons_of_mem _ z)) (by simpa using e)]
    rfl
set_option maxHeartbeats 0
-- use: U_tab U_ways U_cts U_ptog
/-! the way back from the last way to nothing -/
def tk (n : Int) (ks : List (Int × Int)) (i : Nat) : Int × Int := (tabT n ks (waysK ks).length).getD i (0, 0)
set_option maxHeartbeats 0
-- use: U_path U_heap U_cts
/-! what things the walk back takes -/
set_option maxHeartbeats 0
-- use: U_tab U_ways
set_option maxHeartbeats 0
-- use: U_path U_cts U_ptog U_dict
/-! the lots that things make, put one by one -/
set_option maxHeartbeats 0
-- use: U_tab U_ways U_path U_path2 U_last U_lots U_cts U_heap
/-! a table's last pair is the most of all orders -/
set_option maxHeartbeats 0
-- use: U_leans U_heap U_cts U_ptog U_ways U_opt
set_option maxHeartbeats 0
-- use: U_list U_cut
set_option maxHeartbeats 0
-- use: U_list BrD3
/-! min and max of a tuple of ints -/
set_option maxHeartbeats 0
-- use: U_lean U_ptog U_tmin U_cts U_lots U_path2 U_heap
set_option maxHeartbeats 0
-- use: U_leans U_leanm U_heap U_cts U_ptog U_eq U_mostf U_lean
set_option maxHeartbeats 0
-- use: U_board U_rat U_leanm U_leanx U_leans U_heap U_cts U_ptog U_pool U_comp U_list
open Sx
theorem cnt_xL (L : List Int) (x : Int) : cntP (L.map .int) (.int x) = some (.int (L.count x : Nat)) := by
  unfold cntP
  rw [if_pos ⟨by unfold PV.isD; exact isD_ints 59 L, rfl⟩]
  congr 3
  rw [List.countP_map, List.count]
  congr 1
  try (funext z; simp [eqP_ii])
/-- a ratio in lowest terms -/
def rq (a b : Int) : Int × Int := (a / (Int.gcd a b : Nat), b / (Int.gcd a b : Nat))
/-! a heap's board -/
/-- a heap whose shares are told -/
structure HOk (n : Int) (ks : List (Int × Int)) : Prop where
  n1 : 1 ≤ n
  k8 : ks.length ≤ 8
  kinds : Kinds ks
  s1 : ∀ q ∈ ks, 1 ≤ q.1
  sb : ∀ q ∈ ks, q.1.natAbs < 18446744073709551616
  cb : ∀ q ∈ ks, q.2 ≤ 10000000000000
set_option maxHeartbeats 0
-- use: U_tmin BrF2
theorem minLP_isA {l : List Int} {m : Int} (h1 : m ∈ l) (h2 : ∀ y ∈ l, m ≤ y) : minLP [.lst (l.map .int)] = some (.int m) := by
  cases l with
  | nil => cases h1
  | cons x l =>
    obtain ⟨a, b⟩ := fold_min l x
    have e : l.foldl (fun a b => if b < a then b else a) x = m := Int.le_antisymm (b m h1) (h2 _ a)
    rw [List.map_cons]
    simp [minLP, intsOf, minI, e]
theorem min_ex : ∀ {l : List Int}, l ≠ [] → ∃ m ∈ l, ∀ y ∈ l, m ≤ y
  | [], h => absurd rfl h
  | [x], _ => ⟨x, by simp, fun y hy => by simp at hy; omega⟩
  | x :: y :: l, _ => by
    obtain ⟨m, hm, h⟩ := min_ex (l := y :: l) (by simp)
    by_cases c : m ≤ x
    · refine ⟨m, List.mem_cons_of_mem _ hm, fun z hz => ?_⟩
      rcases List.mem_cons.mp hz with rfl | hz
      · exact c
      · exact h z hz
    · refine ⟨x, by simp, fun z hz => ?_⟩
      rcases List.mem_cons.mp hz with rfl | hz
      · omega
      · have := h z hz
        omega
theorem minL_mem {l : List Int} (h : l ≠ []) : ∃ m : Int, minDP [.lst (l.map .int)] = some (.int m) ∧ m ∈ l ∧ ∀ x ∈ l, m ≤ x := by
  obtain ⟨m, hm, hl⟩ := min_ex h
  refine ⟨m, ?_, hm, hl⟩
  unfold minDP
  rw [minLP_isA hm hl]
set_option maxHeartbeats 0
def el_law_filling_3337_1 : Br.Ex := .app .fdiv [.val (.app .idx [.val (.app .dict1 [.val (.app .idx [.ref 4, .val (.cst (.int 1))])]), .ref 9]), .val (.mth .tcnt (.ref 6) [.ref 9])]
def bd_law_filling_3337_1 : List Br.St := [.set 6 (.call 120 [.ref 0, .ref 4]), .ite (.e (.app .isNN [.ref 6])) [.set 7 (.app .minD [.val (.comp (.seq (.var 6)) (.one 9) [9] [] el_law_filling_3337_1)]), .set 8 (.app .idx [.val (.lst [.cst (.int 1), .app .add [.val (.cst (.int 1)), .val (.call 396 [.ref 0, .ref 7])], .var 7]), .val (.app .mul [.val (.call 361 [.ref 0, .val (.cst (.int 3))]), .val (.app .int1 [.val (.app .lt [.ref 2, .val (.cst (.int 99))])])])]), .setIx 3 (.var 6) (.app .add [.val (.mth .dgetT (.ref 3) [.ref 6, .val (.cst (.int 0))]), .ref 8]), .set 4 (.call 180 [.ref 4, .ref 6, .ref 8])] []]
def el_law_filling_3337_2 : Br.Ex := .tup [.var 6, .app .idxT [.ref 3, .ref 6]]
def ir_law_filling_3337 : Fn := ⟨10, 3, [0, 1, 2], [.set 3 (.dnewX), .set 4 (.var 1), .for (.rng1 (.var 2)) (.one 5) bd_law_filling_3337_1, .ret (.app .tupleX [.val (.comp (.seq (.app .sortT [.ref 3])) (.one 6) [6] [] el_law_filling_3337_2)])]⟩
def ph_law_filling_3337 : Nat → List LV → CR := fun j => match j with | 120 => g_law_full_lot_9208 | 180 => g_law_less_8ef1 | 361 => g_law_take_481c | 396 => g_law_wide_88c9 | _ => fun _ => .st
def g_law_filling_3337 : List LV → CR := runFn ph_law_filling_3337 1000000 ir_law_filling_3337
-- use: U_pot U_cts U_xd U_addt U_list U_comp U_wants U_minl U_pool U_ptog
theorem mfill_step {a b c0 n m : Int} {ks kh : List (Int × Int)} {c : List (List Int × Int)} {l_turn l_lot l_room l_times : Option LV} {i : Int} (ha : 0 ≤ a) (hb : 0 ≤ b) (hb2 : b ≤ 1000000000000) (hn : 1 ≤ n) (F : FilP n ks c) (hk : Kinds kh) (hl : kh.length < 64) (hs : ∀ q ∈ kh, 1 ≤ q.1 ∧ q.1 ≤ 1000000000000) (hN : ∀ k, tally kh k ≤ 1000000000000) (ht : ∀ k, tally kh k = tally ks k - used c k) (hc : c.length < 1000) :
    ∃ (c' : List (List Int × Int)) (kh' : List (Int × Int)) (a' b' : Int) (m_turn m_lot m_room m_times : Option LV), FilP n ks c' ∧ Kinds kh' ∧ kh'.length ≤ kh.length ∧ (∀ k, tally kh' k ≤ tally kh k) ∧ (∀ k, tally kh' k = tally ks k - used c' k) ∧ c'.length ≤ c.length + 1 ∧ 0 ≤ a' ∧ b ≤ b' ∧ b' ≤ b + 300 ∧
      bindS (exSs ph_law_filling_3337 1000000 bd_law_filling_3337_1) (.one 5) (.int i) [some (.own (.lst [.int a, .int b, .int c0])), some (.fro (hp n ks)), some (.fro (.int (m))), some (.own (dtX c)), some (.fro (hp n kh)), l_turn, l_lot, l_room, l_times, none] =
        .nx [some (.own (.lst [.int a', .int b', .int c0])), some (.fro (hp n ks)), some (.fro (.int (m))), some (.own (dtX c')), some (.fro (hp n kh')), m_turn, m_lot, m_room, m_times, none] := by
  obtain ⟨r, a1, b1, hr, p3, p4, p5, e1⟩ := flot_9208 (c := c0) ha hb (show b ≤ 10000000000000 by omega) hn hk hl hs
  cases r with
  | none =>
    refine ⟨c, kh, a1, b1, some (.fro (.int i)), some (.fro .non), l_room, l_times, F, hk, Nat.le_refl _, fun k => Int.le_refl _, ht, by omega, p3, by omega, by omega, ?_⟩
    simp -implicitDefEqProofs [evx, bd_law_filling_3337_1, ph_law_filling_3337, e1, optX]
  | some M =>
    obtain ⟨hM, hMn, hMc⟩ := hr M rfl
    obtain ⟨l1, l2, l3, l4⟩ := id hM
    have hM0 : M ≠ [] := fun z => by rw [z] at l1; simp at l1
    have hMk : ∀ x ∈ M, x ∈ keysL kh := fun x hx => mem_of_tally (by have := hMc x; have := List.count_pos_iff.mpr hx; omega)
    obtain ⟨rm, er, hrm, hle⟩ := minL_mem (l := M.map fun x => tally kh x / ((M.count x : Nat) : Int)) (by simpa using hM0)
    have hpos : ∀ x ∈ M, 0 < ((M.count x : Nat) : Int) := fun x hx => by
      have := List.count_pos_iff.mpr hx
      omega
    have hd := dict_prs hk.nd (show kh.length ≤ 1000000 by omega)
    have r1 : ∀ x ∈ M, rm * ((M.count x : Nat) : Int) ≤ tally kh x := fun x hx => by
      have h1 := hle _ (List.mem_map.mpr ⟨x, hx, rfl⟩)
      exact Int.le_trans (Int.mul_le_mul_of_nonneg_right h1 (by have := hpos x hx; omega)) (Int.ediv_mul_le _ (by have := hpos x hx; omega))
    obtain ⟨x0, hx0, ex0⟩ := List.mem_map.mp hrm
    have r2 : 1 ≤ rm := by
      rw [← ex0]
      exact (Int.le_ediv_iff_mul_le (hpos x0 hx0)).mpr (by have := hMc x0; omega)
    have r3 : rm ≤ 1000000000000 := by
      have h1 := r1 x0 hx0
      have h2 := hN x0
      have h3 := Int.mul_le_mul_of_nonneg_left (show (1 : Int) ≤ ((M.count x0 : Nat) : Int) from hpos x0 hx0) (show 0 ≤ rm by omega)
      omega
    obtain ⟨q, a2, b2, q1, q2, q3, q4, q5, e2⟩ := wide_88c9 (c := c0) (m := rm) p3 (show 0 ≤ b1 by omega) (by omega) (by omega) r3
    obtain ⟨d, a3, b3, d1, d2, d3, d4, d5, e3⟩ := take_481c (c := c0) (m := 3) q3 (show 0 ≤ b2 by omega) (by omega) (by omega) (by omega)
    have mk : mulOk d (if m < 99 then 1 else 0) = true := by
      rcases (by omega : d = 0 ∨ d = 1 ∨ d = 2) with rfl | rfl | rfl <;> by_cases z : m < 99 <;> simp [z, mulOk] <;> decide
    obtain ⟨t, t1, t2, mk2, et⟩ : ∃ t : Int, 1 ≤ t ∧ t ≤ rm ∧ mulOk d (if m < 99 then 1 else 0) = true ∧ L2.atI [PV.int 1, .int (1 + q), .int rm] (d * if m < 99 then 1 else 0) = some (.int t) := by
      rcases (by by_cases z : m < 99 <;> simp [z] <;> omega : (d * if m < 99 then (1 : Int) else 0) = 0 ∨ (d * if m < 99 then (1 : Int) else 0) = 1 ∨ (d * if m < 99 then (1 : Int) else 0) = 2) with z | z | z <;> rw [z]
      · exact ⟨1, by omega, by omega, mk, rfl⟩
      · exact ⟨1 + q, by omega, by omega, mk, rfl⟩
      · exact ⟨rm, by omega, by omega, mk, rfl⟩
    have hcm : ∀ x, ((M.count x : Nat) : Int) * t ≤ tally kh x := fun x => by
      by_cases hx : x ∈ M
      · have h1 := r1 x hx
        have h2 := Int.mul_le_mul_of_nonneg_right t2 (show 0 ≤ ((M.count x : Nat) : Int) by omega)
        rw [Int.mul_comm] at h1
        rw [Int.mul_comm]
        rw [Int.mul_comm] at h1
        omega
      · rw [List.count_eq_zero_of_not_mem hx]
        have := hMc x
        rw [List.count_eq_zero_of_not_mem hx] at this
        simpa using this
    obtain ⟨k1, k2, k3, k4⟩ := less_kinds (L := M) hk t1 hcm
    have e4 := lessx_8ef1 (n := n) (t := t) hk.nd hl k4 (by omega) (by omega) fun k _ => hcm k
    have hg := dgetX_dt c M
    have hpt := dtX_put c M (tallyT c M + t) (by omega)
    have hpt : setIxP (.own (dtX c)) (xI M) (.int (tallyT c M + t)) = some (.own (dtX (addT c M t))) := hpt
    have hcmp : ∀ ρ : Br.Env, (∀ x ∈ M, cF ph_law_filling_3337 (.one 9) [9] [] el_law_filling_3337_1 (.int x) ρ = .ok (some (.int (tally kh x / ((M.count x : Nat) : Int)))) ρ) → compL (cF ph_law_filling_3337 (.one 9) [9] [] el_law_filling_3337_1) (M.map PV.int) ρ = .ok ((M.map fun x => tally kh x / ((M.count x : Nat) : Int)).map .int) ρ := fun ρ h => comp_ii _ h
    refine ⟨addT c M t, canon (addAll kh (M.map fun x => (x, -t))), a3, b3, some (.fro (.int i)), some (.fro (xI M)), some (.fro (.int rm)), some (.fro (.int t)), filP_add F hM hMn t1 (fun x => by have := hcm x; rw [ht] at this; exact this), k1, k3, fun k => ?_, fun k => ?_, ?_, d3, by omega, by omega, ?_⟩
    · rw [k2]
      have : 0 ≤ (M.count k : Int) * t := Int.mul_nonneg (by omega) (by omega)
      omega
    · rw [k2, ht, used_addT]; omega
    · have := putT_len M (tallyT c M + t) c
      unfold addT
      omega
    · simp -implicitDefEqProofs [evx, bd_law_filling_3337_1, ph_law_filling_3337, e1, optX, -List.map_map, -Br.minDP, show M.length ≤ 1000000 by omega]
      rw [hcmp _ fun x hx => by
        have hp := hpos x hx
        have hcl : M.count x ≤ M.length := List.count_le_length
        have w2 : (((M.count x : Nat) : Int)).natAbs.log2 < 9000 := log2_lt_9000 (by omega)
        have w3 : (M.count x).log2 < 9000 := by simpa using w2
        have hi := idx_dk (hMk x hx)
        simp -implicitDefEqProofs [evx, -Br.cntP, -Br.dict1P, -Br.idxP, hd, hi, hx, w3, el_law_filling_3337_1, ph_law_filling_3337, cnt_xL, hp, w2]]
      simp -implicitDefEqProofs [evx, -Br.mulOk, ph_law_filling_3337, er, e2, e3, et, mk, -List.map_map, -Br.minDP, -Br.dgetTP, -Br.setIxP, hg, hpt, e4]
theorem fillm_3337 {a b c0 n m : Int} {ks : List (Int × Int)} (ha : 0 ≤ a) (hb : 0 ≤ b) (hb2 : b ≤ 100000000000) (hn : 1 ≤ n) (hk : Kinds ks) (hl : ks.length < 64) (hs : ∀ q ∈ ks, 1 ≤ q.1 ∧ q.1 ≤ 1000000000000 ∧ 1 ≤ q.2 ∧ q.2 ≤ 1000000000000) (hm : 0 ≤ m) (hm2 : m ≤ 100) :
    ∃ (fl : List (List Int × Int)) (a' b' : Int), FilP n ks fl ∧ (keysTL fl).Pairwise (fun a b => ltI a b = true) ∧ (fl.length : Int) ≤ m ∧ (∀ q ∈ fl, q.2 ≤ 1000000000000) ∧ 0 ≤ a' ∧ b ≤ b' ∧ b' ≤ b + 300 * m ∧
      g_law_filling_3337 [pt a b c0, .fro (hp n ks), .fro (.int m)] = .ok (.fro (.xt (fl.map flX))) [pt a' b' c0, .fro (hp n ks), .fro (.int m)] := by
  have tN := tk_le (N := 1000000000000) (by omega) hk.nd fun q hq => (hs q hq).2.2.2
  obtain ⟨ρ1, h1, c, kh, a1, b1, l_turn, l_lot, l_room, l_times, F, i1, i2, i3, i4, i5, i6, i7, i8, rfl⟩ := forL_inv (f := bindS (exSs ph_law_filling_3337 1000000 bd_law_filling_3337_1) (.one 5)) (xs := rngP 0 m)
    (ρ := [some (.own (.lst [.int a, .int b, .int c0])), some (.fro (hp n ks)), some (.fro (.int (m))), some (.own (dtX [])), some (.fro (hp n ks)), none, none, none, none, none])
    (fun i ρ => ∃ (c : List (List Int × Int)) (kh : List (Int × Int)) (a1 b1 : Int) (l_turn l_lot l_room l_times : Option LV), FilP n ks c ∧ Kinds kh ∧ kh.length ≤ ks.length ∧ (∀ k, tally kh k ≤ tally ks k) ∧ (∀ k, tally kh k = tally ks k - used c k) ∧ c.length ≤ i ∧ 0 ≤ a1 ∧ b ≤ b1 ∧ b1 ≤ b + 300 * (i : Int) ∧
      ρ = [some (.own (.lst [.int a1, .int b1, .int c0])), some (.fro (hp n ks)), some (.fro (.int (m))), some (.own (dtX c)), some (.fro (hp n kh)), l_turn, l_lot, l_room, l_times, none])
    ⟨[], ks, a, b, none, none, none, none, ⟨List.nodup_nil, by simp, fun k => by rw [used_nil]; by_cases z : k ∈ keysL ks
                                                                                 · obtain ⟨q, hq, rfl⟩ := List.mem_map.mp z
                                                                                   rw [tally_mem hk.nd hq]
                                                                                   have := hs q hq
                                                                                   omega
                                                                                 · rw [tally_none z]; omega⟩, hk, Nat.le_refl _, fun k => Int.le_refl _, fun k => by rw [used_nil]; omega, Nat.le_refl _, ha, Int.le_refl _, by omega, rfl⟩
    (fun i x ρ hx hi => by
      obtain ⟨c, kh, a1, b1, l_turn, l_lot, l_room, l_times, F, i1, i2, i3, i4, i5, i6, i7, i8, rfl⟩ := hi
      obtain ⟨rfl, hi⟩ := rngP_at hx
      obtain ⟨c', kh', a2, b2, m1, m2, m3, m4, F', j1, j2, j3, j4, j5, j6, j7, j8, e⟩ := mfill_step (c0 := c0) (m := m) (l_turn := l_turn) (l_lot := l_lot) (l_room := l_room) (l_times := l_times) (i := 0 + (i : Int)) i6 (show 0 ≤ b1 by omega) (by omega) hn F i1 (by omega) (fun q hq => by
          have h1 : tally kh q.1 = q.2 := tally_mem i1.nd hq
          have h2 := i1.2 q hq
          have h3 := i3 q.1
          obtain ⟨p, hp, e⟩ := List.mem_map.mp (mem_of_tally (ks := ks) (k := q.1) (by omega))
          rw [← e]
          have := hs p hp
          omega) (fun k => Int.le_trans (i3 k) (tN k)) i4 (by omega)
      exact ⟨_, .inl e, c', kh', a2, b2, m1, m2, m3, m4, F', j1, by omega, fun k => Int.le_trans (j3 k) (i3 k), j4, by omega, j6, by omega, by omega, rfl⟩)
  rw [rngP_len] at i5 i8
  have h1 : forL (bindS (exSs ph_law_filling_3337 1000000 bd_law_filling_3337_1) (.one 5)) (rngP 0 m) [some (.own (.lst [.int a, .int b, .int c0])), some (.fro (hp n ks)), some (.fro (.int (m))), some (.own (.dX [] [])), some (.fro (hp n ks)), none, none, none, none, none] = _ := h1
  have hsort := sortX_dt (c := c) (fun k hk => by
    obtain ⟨q, hq, rfl⟩ := List.mem_map.mp hk
    obtain ⟨⟨l1, _⟩, _⟩ := F.2.1 q hq
    intro z
    rw [z] at l1
    simp at l1) (by omega)
  have hsl : (sortLL (keysTL c)).length ≤ 1000000 := by rw [(sortLL_perm _).length_eq, List.length_map]; omega
  have hr : rngOk m := rng_ok (by omega) (by omega)
  have hrl : (rngP 0 m).length ≤ 1000000 := by rw [rngP_len]; omega
  have fl1 := ofT_len c
  have hp := ofT_perm F.1
  have tF := filP_times F tN
  refine ⟨ofT c, a1, b1, ⟨ltI_nd (ofT_sorted F.1), fun q hq => F.2.1 q (hp.mem_iff.mp hq), fun k => ?_⟩, ofT_sorted F.1, by omega, fun q hq => tF q (hp.mem_iff.mp hq), i6, by omega, by omega, ?_⟩
  · have : used (ofT c) k = used c k := perm_sum (hp.map _)
    rw [this]
    exact F.2.2 k
  · (unfold g_law_filling_3337 ir_law_filling_3337; rw [runFn_eq _ _ _ _ ⟨rfl, by decide, rfl⟩])
    simp -implicitDefEqProofs [evx, -Br.sortTP, hr, hrl, h1, hsort, hsl]
    have hcm : ∀ ρ : Br.Env, (∀ k ∈ sortLL (keysTL c), cF ph_law_filling_3337 (.one 6) [6] [] el_law_filling_3337_2 (xI k) ρ = .ok (some (flX (k, tallyT c k))) ρ) → compL (cF ph_law_filling_3337 (.one 6) [6] [] el_law_filling_3337_2) ((sortLL (keysTL c)).map xI) ρ = .ok ((ofT c).map flX) ρ := fun ρ h => comp_mp flX (fun k => (k, tallyT c k)) h
    rw [hcm _ fun k hk => by
      have hi := idxX_dt (c := c) ((sortLL_perm _).mem_iff.mp hk)
      simp -implicitDefEqProofs [evx, el_law_filling_3337_2, -Br.idxTP, hi, flX]]
    simp -implicitDefEqProofs [evx, fl1]
set_option maxHeartbeats 0
def ir_law_many_ce94 : Fn := ⟨2, 2, [0, 1], [.ret (.app .idx [.val (.lst [.app .add [.val (.cst (.int 1)), .val (.call 361 [.ref 0, .val (.cst (.int 4))])], .cst (.int 1), .app .add [.val (.cst (.int 1)), .val (.call 361 [.ref 0, .val (.cst (.int 60))])], .app .add [.val (.cst (.int 1)), .val (.call 396 [.ref 0, .val (.app .pow [.val (.cst (.int 10)), .val (.cst (.int 12))])])]]), .ref 1])]⟩
def ph_law_many_ce94 : Nat → List LV → CR := fun j => match j with | 361 => g_law_take_481c | 396 => g_law_wide_88c9 | _ => fun _ => .st
def g_law_many_ce94 : List LV → CR := runFn ph_law_many_ce94 1000000 ir_law_many_ce94
-- use: U_pot U_idx
theorem many_ce94 {a b c k : Int} (ha : 0 ≤ a) (hb : 0 ≤ b) (hb2 : b ≤ 10000000000000) (hk : 0 ≤ k) (hk2 : k < 4) : ∃ q a' b' : Int, 1 ≤ q ∧ q ≤ 1000000000000 ∧ 0 ≤ a' ∧ b ≤ b' ∧ b' ≤ b + 10 ∧ g_law_many_ce94 [pt a b c, .fro (.int k)] = .ok (.fro (.int q)) [pt a' b' c, .fro (.int k)] := by
  obtain ⟨q1, a1, b1, h1, h2, h3, h4, h5, e1⟩ := take_481c (c := c) (m := 4) ha hb (by omega) (by omega) (by omega)
  obtain ⟨q2, a2, b2, i1, i2, i3, i4, i5, e2⟩ := take_481c (c := c) (m := 60) h3 (show 0 ≤ b1 by omega) (by omega) (by omega) (by omega)
  obtain ⟨q3, a3, b3, j1, j2, j3, j4, j5, e3⟩ := wide_88c9 (c := c) (m := 1000000000000) i3 (show 0 ≤ b2 by omega) (by omega) (by omega) (by omega)
  obtain ⟨z, hz, ez⟩ := atI_4 (P := fun z => 1 ≤ z ∧ z ≤ 1000000000000) (a := 1 + q1) (b := 1) (c := 1 + q2) (d := 1 + q3) hk hk2 ⟨by omega, by omega⟩ ⟨by omega, by omega⟩ ⟨by omega, by omega⟩ ⟨by omega, by omega⟩
  refine ⟨z, a3, b3, hz.1, hz.2, j3, by omega, by omega, ?_⟩
  (unfold g_law_many_ce94 ir_law_many_ce94; rw [runFn_eq _ _ _ _ ⟨rfl, by decide, rfl⟩])
  simp -implicitDefEqProofs [evx, ph_law_many_ce94, e1, e2, e3, ez]
set_option maxHeartbeats 0
def ir_law_need_2946 : Fn := ⟨2, 1, [0], [.set 1 (.lst [.app .add [.val (.cst (.int 1)), .val (.call 361 [.ref 0, .val (.cst (.int 12))])], .app .add [.val (.cst (.int 1)), .val (.call 361 [.ref 0, .val (.cst (.int 60))])], .cst (.int 100), .app .add [.val (.cst (.int 1)), .val (.call 396 [.ref 0, .val (.app .pow [.val (.cst (.int 10)), .val (.cst (.int 12))])])], .app .pow [.val (.cst (.int 10)), .val (.cst (.int 12))]]), .ret (.app .idx [.ref 1, .val (.call 361 [.ref 0, .val (.cst (.int 5))])])]⟩
def ph_law_need_2946 : Nat → List LV → CR := fun j => match j with | 361 => g_law_take_481c | 396 => g_law_wide_88c9 | _ => fun _ => .st
def g_law_need_2946 : List LV → CR := runFn ph_law_need_2946 1000000 ir_law_need_2946
-- use: U_pot U_idx
theorem need_2946 {a b c : Int} (ha : 0 ≤ a) (hb : 0 ≤ b) (hb2 : b ≤ 10000000000000) : ∃ q a' b' : Int, 1 ≤ q ∧ q ≤ 1000000000000 ∧ 0 ≤ a' ∧ b ≤ b' ∧ b' ≤ b + 11 ∧ g_law_need_2946 [pt a b c] = .ok (.fro (.int q)) [pt a' b' c] := by
  obtain ⟨q1, a1, b1, h1, h2, h3, h4, h5, e1⟩ := take_481c (c := c) (m := 12) ha hb (by omega) (by omega) (by omega)
  obtain ⟨q2, a2, b2, i1, i2, i3, i4, i5, e2⟩ := take_481c (c := c) (m := 60) h3 (show 0 ≤ b1 by omega) (by omega) (by omega) (by omega)
  obtain ⟨q3, a3, b3, j1, j2, j3, j4, j5, e3⟩ := wide_88c9 (c := c) (m := 1000000000000) i3 (show 0 ≤ b2 by omega) (by omega) (by omega) (by omega)
  obtain ⟨q4, a4, b4, k1, k2, k3, k4, k5, e4⟩ := take_481c (c := c) (m := 5) j3 (show 0 ≤ b3 by omega) (by omega) (by omega) (by omega)
  obtain ⟨z, hz, ez⟩ := atI_5 (P := fun z => 1 ≤ z ∧ z ≤ 1000000000000) (a := 1 + q1) (b := 1 + q2) (c := 100) (d := 1 + q3) (e := 1000000000000) k1 k2 ⟨by omega, by omega⟩ ⟨by omega, by omega⟩ ⟨by omega, by omega⟩ ⟨by omega, by omega⟩ ⟨by omega, by omega⟩
  refine ⟨z, a4, b4, hz.1, hz.2, k3, by omega, by omega, ?_⟩
  (unfold g_law_need_2946 ir_law_need_2946; rw [runFn_eq _ _ _ _ ⟨rfl, by decide, rfl⟩])
  simp -implicitDefEqProofs [evx, ph_law_need_2946, e1, e2, e3, e4, ez]
set_option maxHeartbeats 0
def ir_law_size_3721 : Fn := ⟨3, 2, [0, 1], [.set 2 (.lst [.app .fdiv [.ref 1, .val (.cst (.int 2))], .app .add [.val (.app .fdiv [.ref 1, .val (.cst (.int 2))]), .val (.cst (.int 1))], .app .add [.val (.app .fdiv [.ref 1, .val (.cst (.int 3))]), .val (.cst (.int 1))], .app .sub [.ref 1, .val (.cst (.int 1))], .var 1, .app .add [.ref 1, .val (.call 361 [.ref 0, .val (.cst (.int 9))])], .cst (.int 1), .app .fdiv [.ref 1, .val (.cst (.int 7))]]), .set 2 (.app .add [.ref 2, .val (.lst [.app .add [.val (.cst (.int 1)), .val (.call 396 [.ref 0, .ref 1])], .app .add [.val (.cst (.int 1)), .val (.call 361 [.ref 0, .val (.cst (.int 12))])], .app .add [.val (.app .fdiv [.ref 1, .val (.cst (.int 4))]), .val (.cst (.int 1))], .app .fdiv [.ref 1, .val (.cst (.int 5))]])]), .ret (.app .max2 [.val (.cst (.int 1)), .val (.app .min2 [.val (.app .pow [.val (.cst (.int 10)), .val (.cst (.int 12))]), .val (.app .idx [.ref 2, .val (.call 361 [.ref 0, .val (.cst (.int 12))])])])])]⟩
def ph_law_size_3721 : Nat → List LV → CR := fun j => match j with | 361 => g_law_take_481c | 396 => g_law_wide_88c9 | _ => fun _ => .st
def g_law_size_3721 : List LV → CR := runFn ph_law_size_3721 1000000 ir_law_size_3721
-- use: U_pot U_idx
theorem size_3721 {a b c n : Int} (ha : 0 ≤ a) (hb : 0 ≤ b) (hb2 : b ≤ 10000000000000) (hn : 1 ≤ n) (hn2 : n ≤ 1000000000000) : ∃ q a' b' : Int, 1 ≤ q ∧ q ≤ 1000000000000 ∧ 0 ≤ a' ∧ b ≤ b' ∧ b' ≤ b + 11 ∧ g_law_size_3721 [pt a b c, .fro (.int n)] = .ok (.fro (.int q)) [pt a' b' c, .fro (.int n)] := by
  obtain ⟨q1, a1, b1, h1, h2, h3, h4, h5, e1⟩ := take_481c (c := c) (m := 9) ha hb (by omega) (by omega) (by omega)
  obtain ⟨q3, a3, b3, j1, j2, j3, j4, j5, e3⟩ := wide_88c9 (c := c) (m := n) h3 (show 0 ≤ b1 by omega) (by omega) (by omega) (by omega)
  obtain ⟨q2, a2, b2, i1, i2, i3, i4, i5, e2⟩ := take_481c (c := c) (m := 12) j3 (show 0 ≤ b3 by omega) (by omega) (by omega) (by omega)
  obtain ⟨q4, a4, b4, k1, k2, k3, k4, k5, e4⟩ := take_481c (c := c) (m := 12) i3 (show 0 ≤ b2 by omega) (by omega) (by omega) (by omega)
  obtain ⟨z, _, ez⟩ := atI_int (l := [n / 2, n / 2 + 1, n / 3 + 1, n - 1, n, n + q1, 1, n / 7, 1 + q3, 1 + q2, n / 4 + 1, n / 5]) k1 (by simpa using k2)
  simp only [List.map_cons, List.map_nil] at ez
  have cl1 := clip_1 z
  have cl2 := clip_2 z
  refine ⟨clip z, a4, b4, cl1, cl2, k3, by omega, by omega, ?_⟩
  (unfold g_law_size_3721 ir_law_size_3721; rw [runFn_eq _ _ _ _ ⟨rfl, by decide, rfl⟩])
  simp -implicitDefEqProofs [evx, ph_law_size_3721, e1, e2, e3, e4, ez]
  unfold clip
  split <;> split <;> (try split) <;> (try split) <;> omega
set_option maxHeartbeats 0
-- use: U_pot U_cts U_xd U_addt U_eq U_ptog U_lean U_mostf U_heap
theorem flX_isD (n : Nat) (fl : List (List Int × Int)) : (fl.map flX).all (PV.isD (n + 2)) = true := by
  rw [List.all_eq_true]
  intro x hx
  obtain ⟨q, _, rfl⟩ := List.mem_map.mp hx
  unfold flX
  rw [PV.isD, List.all_cons, List.all_cons, List.all_nil, PV.isD]
  rw [show PV.isD (n + 1) (xI q.1) = (q.1.map PV.int).all (PV.isD n) by unfold PV.isD; rfl, show (q.1.map PV.int).all (PV.isD n) = true by
    rw [List.all_eq_true]
    intro x hx
    obtain ⟨i, _, rfl⟩ := List.mem_map.mp hx
    cases n <;> rfl]
  rfl
theorem neOP_self {p : PV} (h : p.isD 60 = true) : neOP [p, p] = some (.bl false) := by
  have e : ∀ q : PV, q.isD 60 = true → neOP [q, q] = some (.bl (!eqP q q)) := fun q hq => by
    cases q with
    | str x => simp [neOP, eqP_ss]
    | _ => simp [neOP, hq]
  rw [e p h, eqP_self h]
  rfl
theorem rise_keys {fl : List (List Int × Int)} (h : (keysTL fl).Pairwise (fun a b => ltI a b = true)) : ∀ (i : Nat) (a b : List Int × Int), fl[i]? = some a → fl[i + 1]? = some b → ltI a.1 b.1 = true := fun i a b ha hb => by
  have h1 : (keysTL fl)[i]? = some a.1 := by unfold keysTL; rw [List.getElem?_map, ha]; rfl
  have h2 : (keysTL fl)[i + 1]? = some b.1 := by unfold keysTL; rw [List.getElem?_map, hb]; rfl
  obtain ⟨l1, e1⟩ := List.getElem?_eq_some_iff.mp h1
  obtain ⟨l2, e2⟩ := List.getElem?_eq_some_iff.mp h2
  have := List.pairwise_iff_getElem.mp h i (i + 1) l1 l2 (by omega)
  rw [e1, e2] at this
  exact this
set_option maxHeartbeats 0
def ir_law_spoilt_26e7 : Fn := ⟨9, 3, [0, 1, 2], [.set 3 (.app .list1 [.ref 2]), .ite (.e (.app .eq [.val (.app .len [.ref 3]), .val (.cst (.int 0))])) [.ret (.app .idx [.val (.lst [.xtup [.tup [.xtup [.app .idx [.ref 1, .val (.cst (.int 0))]], .cst (.int 1)]], .xtup [.tup [.xtup [], .cst (.int 1)]], .xtup [.tup [.xtup [.cst (.int 1)], .cst (.int 0)]], .xtup [.tup [.xtup [.app .idx [.ref 1, .val (.cst (.int 0))]], .app .neg [.val (.cst (.int 1))]]]]), .val (.call 361 [.ref 0, .val (.cst (.int 4))])])] [], .set 4 (.call 361 [.ref 0, .val (.app .len [.ref 3])]), .set 5 (.call 361 [.ref 0, .val (.app .len [.ref 3])]), .unp (.tup [.one 6, .one 7]) (.app .idx [.ref 3, .ref 4]), .set 8 (.call 361 [.ref 0, .val (.cst (.int 8))]), .ite (.e (.app .lt [.ref 8, .val (.cst (.int 2))])) [.setIx 3 (.var 4) (.tup [.var 6, .app .idx [.val (.lst [.app .add [.ref 7, .val (.cst (.int 1))], .app .sub [.ref 7, .val (.cst (.int 1))], .cst (.int 0), .app .sub [.val (.cst (.int 0)), .ref 7], .app .add [.ref 7, .val (.app .pow [.val (.cst (.int 10)), .val (.cst (.int 12))])]]), .val (.call 361 [.ref 0, .val (.cst (.int 5))])]])] [.ite (.e (.app .eq [.ref 8, .val (.cst (.int 2))])) [.unp (.tup [.atV 3 4, .atV 3 5]) (.tup [.app .idx [.ref 3, .ref 5], .app .idx [.ref 3, .ref 4]])] [.ite (.e (.app .eq [.ref 8, .val (.cst (.int 3))])) [.insA 3 (.var 4) (.app .idx [.val (.lst [.app .idx [.ref 3, .ref 5], .tup [.var 6, .app .max2 [.val (.cst (.int 1)), .val (.app .sub [.ref 7, .val (.cst (.int 1))])]]]), .val (.call 361 [.ref 0, .val (.cst (.int 2))])])] [.ite (.e (.app .eq [.ref 8, .val (.cst (.int 4))])) [.set 3 (.app .add [.ref 3, .val (.lst [.tup [.call 247 [.ref 0, .ref 1, .ref 6], .cst (.int 1)]])])] [.ite (.e (.app .eq [.ref 8, .val (.cst (.int 5))])) [.set 3 (.app .sortedD [.val (.app .add [.val (.app .add [.val (.app (.slc false true) [.ref 3, .ref 4]), .val (.lst [.tup [.call 247 [.ref 0, .ref 1, .ref 6], .var 7]])]), .val (.app (.slc true false) [.ref 3, .val (.app .add [.ref 4, .val (.cst (.int 1))])])])])] [.setIx 3 (.var 4) (.tup [.call 247 [.ref 0, .ref 1, .ref 6], .var 7])]]]]], .ret (.app .tuple1 [.ref 3])]⟩
def ph_law_spoilt_26e7 : Nat → List LV → CR := fun j => match j with | 247 => g_law_other_lot_6c5d | 361 => g_law_take_481c | _ => fun _ => .st
def g_law_spoilt_26e7 : List LV → CR := runFn ph_law_spoilt_26e7 1000000 ir_law_spoilt_26e7
-- use: U_pot U_cts U_pool U_list U_cut U_comp U_idx U_xd U_jdg U_addt U_lfp
/-! sorting pairs of a lot and times -/
theorem memJ_flX (fl : List (List Int × Int)) : ∀ p ∈ fl.map flX, ∃ q, p = flX q := fun p hp => by
  obtain ⟨q, _, rfl⟩ := List.mem_map.mp hp
  exact ⟨q, rfl⟩
theorem alikeJ_flX (a b : List Int × Int) : alikeP (flX a) (flX b) = true := by
  have h1 := alike_xI a.1 b.1
  unfold alikeP at h1 ⊢
  unfold flX
  have e : ∀ (p : PV) (i : Int), PV.toD (.tup [p, .int i]) = .tuple [p.toD, .int i] := fun p i => by rw [PV.toD, PV.toDs, PV.toDs, PV.toDs, PV.toD]
  rw [e, e, PySem.W.alike, PySem.W.alikeAll, h1, PySem.W.alikeAll, PySem.W.alikeAll, PySem.W.alike]
  rfl
theorem sort_flX {fl : List (List Int × Int)} (hl : fl.length ≤ 1000000) : ∃ fl' : List (List Int × Int), fl'.Perm fl ∧ sortedDP [.lst (fl.map flX)] = some (.lst (fl'.map flX)) := by
  cases fl with
  | nil => exact ⟨[], List.Perm.refl _, by simp [sortedDP, sortedP, intsOf, sortI]⟩
  | cons x l =>
    have e1 : sortedP [.lst ((x :: l).map flX)] = none := by simp [sortedP, intsOf, flX]
    have e2 : sortOk ((x :: l).map flX) = true := by
      unfold sortOk
      simp only [Bool.and_eq_true, Bool.or_eq_true, List.all_eq_true, decide_eq_true_eq, List.length_map]
      refine ⟨⟨⟨?_, fun p hp q hq => ?_⟩, .inl fun p hp => ?_⟩, hl⟩
      · unfold PV.isD
        exact flX_isD 57 _
      · obtain ⟨a, rfl⟩ := memJ_flX _ p hp
        obtain ⟨b, rfl⟩ := memJ_flX _ q hq
        exact alikeJ_flX a b
      · obtain ⟨a, rfl⟩ := memJ_flX _ p hp
        rfl
    have e3 : sortX ((x :: l).map flX) = some (.lst (sortD ((x :: l).map flX))) := by
      cases l with
      | nil => simp [sortX, sortD]
      | cons y l =>
        rw [List.map_cons, List.map_cons] at e2 ⊢
        unfold sortX
        dsimp only
        simp only [e2, if_true]
    have hp : (sortD ((x :: l).map flX)).Perm ((x :: l).map flX) := List.mergeSort_perm _ _
    have hm : sortD ((x :: l).map flX) = (((x :: l).mergeSort fun a b => leD (flX a) (flX b))).map flX := by
      unfold sortD
      exact (List.map_mergeSort (r := fun a b => leD (flX a) (flX b)) (s := leD) (f := flX) (l := x :: l) (fun a _ b _ => rfl)).symm
    refine ⟨(x :: l).mergeSort fun a b => leD (flX a) (flX b), List.mergeSort_perm _ _, ?_⟩
    unfold sortedDP
    rw [e1]
    dsimp only
    rw [e3, hm]
theorem at3_5 (x y z u v : PV) : L2.atI [x, y, z, u, v] 3 = some u := rfl
theorem at4_5 (x y z u v : PV) : L2.atI [x, y, z, u, v] 4 = some v := rfl
theorem at3_4 (x y z u : PV) : L2.atI [x, y, z, u] 3 = some u := rfl
def SpJ (fl : List (List Int × Int)) : Prop := ∀ q ∈ fl, q.1.length ≤ 101 ∧ BdI q.1 ∧ q.2.natAbs ≤ 10000000000000
theorem SpJ.perm {a b : List (List Int × Int)} (h : SpJ a) (p : b.Perm a) : SpJ b := fun q hq => h q (p.mem_iff.mp hq)
theorem SpJ.set {a : List (List Int × Int)} (h : SpJ a) (k : Nat) {q : List Int × Int} (hq : q.1.length ≤ 101 ∧ BdI q.1 ∧ q.2.natAbs ≤ 10000000000000) : SpJ (a.set k q) := fun x hx => by
  rcases List.mem_or_eq_of_mem_set hx with hx | rfl
  · exact h x hx
  · exact hq
theorem spoilt_26e7 {a b c n : Int} {ks : List (Int × Int)} {fl : List (List Int × Int)} (ha : 0 ≤ a) (hb : 0 ≤ b) (hb2 : b ≤ 1000000000000) (hn : 1 ≤ n) (hn2 : n ≤ 1000000000000) (hl : ks.length < 64) (hs : ∀ q ∈ ks, 1 ≤ q.1 ∧ q.1 ≤ 1000000000000) (hf : fl.length ≤ 100) (hq : ∀ q ∈ fl, LotOk q.1 ∧ 1 ≤ q.2 ∧ q.2 ≤ 1000000000000) :
    ∃ (fl' : List (List Int × Int)) (p : PV) (a' b' : Int), FlX fl' p ∧ fl'.length ≤ 101 ∧ SpJ fl' ∧ 0 ≤ a' ∧ b ≤ b' ∧ b' ≤ b + 10 ∧ g_law_spoilt_26e7 [pt a b c, .fro (hp n ks), .fro (.xt (fl.map flX))] = .ok (.fro p) [pt a' b' c, .fro (hp n ks), .fro (.xt (fl.map flX))] := by
  have A : SpJ fl := fun q h => by
    obtain ⟨⟨_, l2, l3, _⟩, h1, h2⟩ := hq q h
    exact ⟨by omega, fun x hx => by have := l3 x hx; omega, by omega⟩
  have hf6 : fl.length ≤ 1000000 := by omega
  (unfold g_law_spoilt_26e7 ir_law_spoilt_26e7; rw [runFn_eq _ _ _ _ ⟨rfl, by decide, rfl⟩])
  by_cases c0 : fl = []
  · subst c0
    obtain ⟨t1, a1, b1, p1, p2, p3, p4, p5, e1⟩ := take_481c (c := c) (m := 4) ha hb (by omega) (by omega) (by omega)
    rcases (by omega : t1 = 0 ∨ t1 = 1 ∨ t1 = 2 ∨ t1 = 3) with rfl | rfl | rfl | rfl
    · refine ⟨[([n], 1)], _, a1, b1, .inr (.inl rfl), by simp, fun q h => ?_, p3, by omega, by omega, ?_⟩
      · simp at h; subst h
        exact ⟨by simp, fun x hx => by simp at hx; omega, by simp⟩
      · simp -implicitDefEqProofs [evx, hp, ph_law_spoilt_26e7, e1, flX, at3_4]
    · refine ⟨[([], 1)], _, a1, b1, .inr (.inl rfl), by simp, fun q h => ?_, p3, by omega, by omega, ?_⟩
      · simp at h; subst h
        exact ⟨by simp, fun x hx => by simp at hx, by simp⟩
      · simp -implicitDefEqProofs [evx, hp, ph_law_spoilt_26e7, e1, flX, at3_4]
    · refine ⟨[([1], 0)], _, a1, b1, .inr (.inl rfl), by simp, fun q h => ?_, p3, by omega, by omega, ?_⟩
      · simp at h; subst h
        exact ⟨by simp, fun x hx => by simp at hx; omega, by simp⟩
      · simp -implicitDefEqProofs [evx, hp, ph_law_spoilt_26e7, e1, flX, at3_4]
    · refine ⟨[([n], -1)], _, a1, b1, .inr (.inl rfl), by simp, fun q h => ?_, p3, by omega, by omega, ?_⟩
      · simp at h; subst h
        exact ⟨by simp, fun x hx => by simp at hx; omega, by simp⟩
      · simp -implicitDefEqProofs [evx, hp, ph_law_spoilt_26e7, e1, flX, at3_4]
  have hl1 : 1 ≤ fl.length := by
    cases fl with
    | nil => exact absurd rfl c0
    | cons q l => simp
  obtain ⟨t1, a1, b1, p1, p2, p3, p4, p5, e1⟩ := take_481c (c := c) (m := (fl.length : Int)) ha hb (by omega) (by omega) (by omega)
  obtain ⟨t2, a2, b2, q1, q2, q3, q4, q5, e2⟩ := take_481c (c := c) (m := (fl.length : Int)) p3 (show 0 ≤ b1 by omega) (by omega) (by omega) (by omega)
  obtain ⟨t3, a3, b3, r1, r2, r3, r4, r5, e3⟩ := take_481c (c := c) (m := 8) q3 (show 0 ≤ b2 by omega) (by omega) (by omega) (by omega)
  obtain ⟨t4, a4, b4, s1, s2, s3, s4, s5, e4⟩ := take_481c (c := c) (m := 5) r3 (show 0 ≤ b3 by omega) (by omega) (by omega) (by omega)
  obtain ⟨t5, a5, b5, u1, u2, u3, u4, u5, e5⟩ := take_481c (c := c) (m := 2) r3 (show 0 ≤ b3 by omega) (by omega) (by omega) (by omega)
  obtain ⟨k1, rfl⟩ := Int.eq_ofNat_of_zero_le p1
  obtain ⟨k2, rfl⟩ := Int.eq_ofNat_of_zero_le q1
  have hk1 : k1 < fl.length := by omega
  have hk2 : k2 < fl.length := by omega
  have h99 : fl.length ≤ 999999 := by omega
  have k99 : k1 ≤ 999999 := by omega
  have kk : k1 + 1 + (fl.length - (k1 + 1)) ≤ 1000000 := by omega
  have lm : (fl.map flX).length = fl.length := by simp
  obtain ⟨hq1, hq2, hq3⟩ := hq _ (List.getElem_mem hk1)
  obtain ⟨m1, m2, m3⟩ := A _ (List.getElem_mem hk1)
  have M2 := A _ (List.getElem_mem hk2)
  have g1 : L2.atI (fl.map flX) (k1 : Int) = some (.tup [xI fl[k1].1, .int fl[k1].2]) := atI_n _ k1 _ (by simp [hk1, flX])
  have g2 : L2.atI (fl.map flX) (k2 : Int) = some (.tup [xI fl[k2].1, .int fl[k2].2]) := atI_n _ k2 _ (by simp [hk2, flX])
  have i1 : L2.ixN fl.length (k1 : Int) = some k1 := by unfold L2.ixN; rw [if_pos (by omega), if_pos (by omega)]; simp
  have i2 : L2.ixN fl.length (k2 : Int) = some k2 := by unfold L2.ixN; rw [if_pos (by omega), if_pos (by omega)]; simp
  have hne : fl ≠ [] := c0
  have j0 : (k1 : Int) < fl.length := by omega
  have j1 : (k1 : Int) < 1000000 := by omega
  have j2 : k1 < fl.length := hk1
  have j3 : fl.length < 1000000 := by omega
  have cs := fun v : PV => cut_setP (L := fl.map flX) (i := k1) v (by simpa using hk1)
  have chl : (cutP (fl.map flX) none (some (k1 : Int))).length = k1 := by rw [cut_lo (by simp; omega)]; simp; omega
  have chh : (cutP (fl.map flX) (some ((k1 : Int) + 1)) none).length = fl.length - (k1 + 1) := by rw [cut_hi (by simpa using hk1)]; simp
  obtain ⟨M, a6, b6, v1, v2, v3, v4, v5, e6⟩ := other_6c5d (c := c) (n := n) (L := fl[k1].1) r3 (show 0 ≤ b3 by omega) (by omega) hn hn2 hl hs hq1
  have MB : ∀ t : Int, t.natAbs ≤ 10000000000000 → M.length ≤ 101 ∧ BdI M ∧ t.natAbs ≤ 10000000000000 := fun t ht => ⟨v1, v2, ht⟩
  obtain ⟨sl, sp, e7⟩ := sort_flX (fl := fl.set k1 (M, fl[k1].2)) (by simp; omega)
  have e7 : sortedDP [.lst ((fl.map flX).set k1 (.tup [xI M, .int fl[k1].2]))] = some (.lst (sl.map flX)) := by rw [← e7]; simp [flX]
  have hsl : sl.length = fl.length := by rw [sp.length_eq]; simp
  have hsl6 : sl.length ≤ 1000000 := by omega
  rcases (by omega : t3 = 0 ∨ t3 = 1 ∨ t3 = 2 ∨ t3 = 3 ∨ t3 = 4 ∨ t3 = 5 ∨ t3 = 6 ∨ t3 = 7) with rfl | rfl | rfl | rfl | rfl | rfl | rfl | rfl
  · rcases (by omega : t4 = 0 ∨ t4 = 1 ∨ t4 = 2 ∨ t4 = 3 ∨ t4 = 4) with rfl | rfl | rfl | rfl | rfl
    · refine ⟨fl.set k1 (fl[k1].1, fl[k1].2 + 1), .tup _, a4, b4, .inl rfl, by simp; omega, A.set k1 ⟨m1, m2, by omega⟩, s3, by omega, by omega, ?_⟩
      simp -implicitDefEqProofs [evx, -L2.ixN, -L2.atI, -sortedDP, ph_law_spoilt_26e7, e1, e2, e3, e4, e5, e6, e7, g1, g2, i1, i2, lm, hne, hf6, h99, k99, j0, j1, j2, j3, kk, hk2, at3_5, at4_5, chl, chh, cs, flX]
    · refine ⟨fl.set k1 (fl[k1].1, fl[k1].2 - 1), .tup _, a4, b4, .inl rfl, by simp; omega, A.set k1 ⟨m1, m2, by omega⟩, s3, by omega, by omega, ?_⟩
      simp -implicitDefEqProofs [evx, -L2.ixN, -L2.atI, -sortedDP, ph_law_spoilt_26e7, e1, e2, e3, e4, e5, e6, e7, g1, g2, i1, i2, lm, hne, hf6, h99, k99, j0, j1, j2, j3, kk, hk2, at3_5, at4_5, chl, chh, cs, flX]
    · refine ⟨fl.set k1 (fl[k1].1, 0), .tup _, a4, b4, .inl rfl, by simp; omega, A.set k1 ⟨m1, m2, by omega⟩, s3, by omega, by omega, ?_⟩
      simp -implicitDefEqProofs [evx, -L2.ixN, -L2.atI, -sortedDP, ph_law_spoilt_26e7, e1, e2, e3, e4, e5, e6, e7, g1, g2, i1, i2, lm, hne, hf6, h99, k99, j0, j1, j2, j3, kk, hk2, at3_5, at4_5, chl, chh, cs, flX]
    · refine ⟨fl.set k1 (fl[k1].1, 0 - fl[k1].2), .tup _, a4, b4, .inl rfl, by simp; omega, A.set k1 ⟨m1, m2, by omega⟩, s3, by omega, by omega, ?_⟩
      simp -implicitDefEqProofs [evx, -L2.ixN, -L2.atI, -sortedDP, ph_law_spoilt_26e7, e1, e2, e3, e4, e5, e6, e7, g1, g2, i1, i2, lm, hne, hf6, h99, k99, j0, j1, j2, j3, kk, hk2, at3_5, at4_5, chl, chh, cs, flX]
    · refine ⟨fl.set k1 (fl[k1].1, fl[k1].2 + 1000000000000), .tup _, a4, b4, .inl rfl, by simp; omega, A.set k1 ⟨m1, m2, by omega⟩, s3, by omega, by omega, ?_⟩
      simp -implicitDefEqProofs [evx, -L2.ixN, -L2.atI, -sortedDP, ph_law_spoilt_26e7, e1, e2, e3, e4, e5, e6, e7, g1, g2, i1, i2, lm, hne, hf6, h99, k99, j0, j1, j2, j3, kk, hk2, at3_5, at4_5, chl, chh, cs, flX]
  · rcases (by omega : t4 = 0 ∨ t4 = 1 ∨ t4 = 2 ∨ t4 = 3 ∨ t4 = 4) with rfl | rfl | rfl | rfl | rfl
    · refine ⟨fl.set k1 (fl[k1].1, fl[k1].2 + 1), .tup _, a4, b4, .inl rfl, by simp; omega, A.set k1 ⟨m1, m2, by omega⟩, s3, by omega, by omega, ?_⟩
      simp -implicitDefEqProofs [evx, -L2.ixN, -L2.atI, -sortedDP, ph_law_spoilt_26e7, e1, e2, e3, e4, e5, e6, e7, g1, g2, i1, i2, lm, hne, hf6, h99, k99, j0, j1, j2, j3, kk, hk2, at3_5, at4_5, chl, chh, cs, flX]
    · refine ⟨fl.set k1 (fl[k1].1, fl[k1].2 - 1), .tup _, a4, b4, .inl rfl, by simp; omega, A.set k1 ⟨m1, m2, by omega⟩, s3, by omega, by omega, ?_⟩
      simp -implicitDefEqProofs [evx, -L2.ixN, -L2.atI, -sortedDP, ph_law_spoilt_26e7, e1, e2, e3, e4, e5, e6, e7, g1, g2, i1, i2, lm, hne, hf6, h99, k99, j0, j1, j2, j3, kk, hk2, at3_5, at4_5, chl, chh, cs, flX]
    · refine ⟨fl.set k1 (fl[k1].1, 0), .tup _, a4, b4, .inl rfl, by simp; omega, A.set k1 ⟨m1, m2, by omega⟩, s3, by omega, by omega, ?_⟩
      simp -implicitDefEqProofs [evx, -L2.ixN, -L2.atI, -sortedDP, ph_law_spoilt_26e7, e1, e2, e3, e4, e5, e6, e7, g1, g2, i1, i2, lm, hne, hf6, h99, k99, j0, j1, j2, j3, kk, hk2, at3_5, at4_5, chl, chh, cs, flX]
    · refine ⟨fl.set k1 (fl[k1].1, 0 - fl[k1].2), .tup _, a4, b4, .inl rfl, by simp; omega, A.set k1 ⟨m1, m2, by omega⟩, s3, by omega, by omega, ?_⟩
      simp -implicitDefEqProofs [evx, -L2.ixN, -L2.atI, -sortedDP, ph_law_spoilt_26e7, e1, e2, e3, e4, e5, e6, e7, g1, g2, i1, i2, lm, hne, hf6, h99, k99, j0, j1, j2, j3, kk, hk2, at3_5, at4_5, chl, chh, cs, flX]
    · refine ⟨fl.set k1 (fl[k1].1, fl[k1].2 + 1000000000000), .tup _, a4, b4, .inl rfl, by simp; omega, A.set k1 ⟨m1, m2, by omega⟩, s3, by omega, by omega, ?_⟩
      simp -implicitDefEqProofs [evx, -L2.ixN, -L2.atI, -sortedDP, ph_law_spoilt_26e7, e1, e2, e3, e4, e5, e6, e7, g1, g2, i1, i2, lm, hne, hf6, h99, k99, j0, j1, j2, j3, kk, hk2, at3_5, at4_5, chl, chh, cs, flX]
  · refine ⟨(fl.set k1 fl[k2]).set k2 fl[k1], .tup _, a3, b3, .inl rfl, by simp; omega, (A.set k1 M2).set k2 ⟨m1, m2, m3⟩, r3, by omega, by omega, ?_⟩
    simp -implicitDefEqProofs [evx, -L2.ixN, -L2.atI, -sortedDP, ph_law_spoilt_26e7, e1, e2, e3, e4, e5, e6, e7, g1, g2, i1, i2, lm, hne, hf6, h99, k99, j0, j1, j2, j3, kk, hk2, at3_5, at4_5, chl, chh, cs, flX]
  · have ins : ∀ q : List Int × Int, q.1.length ≤ 101 ∧ BdI q.1 ∧ q.2.natAbs ≤ 10000000000000 → SpJ (fl.take k1 ++ q :: fl.drop k1) := fun q hq x hx => by
      rcases List.mem_append.mp hx with hx | hx
      · exact A x (List.mem_of_mem_take hx)
      · rcases List.mem_cons.mp hx with rfl | hx
        · exact hq
        · exact A x (List.mem_of_mem_drop hx)
    rcases (by omega : t5 = 0 ∨ t5 = 1) with rfl | rfl
    · refine ⟨fl.take k1 ++ fl[k2] :: fl.drop k1, .tup _, a5, b5, .inl rfl, by simp; omega, ins _ M2, u3, by omega, by omega, ?_⟩
      simp -implicitDefEqProofs [evx, -L2.ixN, -L2.atI, -sortedDP, ph_law_spoilt_26e7, e1, e2, e3, e4, e5, e6, e7, g1, g2, i1, i2, lm, hne, hf6, h99, k99, j0, j1, j2, j3, kk, hk2, at3_5, at4_5, chl, chh, cs, flX]
    · refine ⟨fl.take k1 ++ (fl[k1].1, if 1 < fl[k1].2 - 1 then fl[k1].2 - 1 else 1) :: fl.drop k1, .tup _, a5, b5, .inl rfl, by simp; omega, ins _ ⟨m1, m2, by dsimp only; split <;> omega⟩, u3, by omega, by omega, ?_⟩
      simp -implicitDefEqProofs [evx, -L2.ixN, -L2.atI, -sortedDP, ph_law_spoilt_26e7, e1, e2, e3, e4, e5, e6, e7, g1, g2, i1, i2, lm, hne, hf6, h99, k99, j0, j1, j2, j3, kk, hk2, at3_5, at4_5, chl, chh, cs, flX]
  · refine ⟨fl ++ [(M, 1)], .tup _, a6, b6, .inl rfl, by simp; omega, fun x hx => (List.mem_append.mp hx).elim (A x) (fun h => by simp at h; subst h; exact MB 1 (by omega)), v3, by omega, by omega, ?_⟩
    simp -implicitDefEqProofs [evx, -L2.ixN, -L2.atI, -sortedDP, ph_law_spoilt_26e7, e1, e2, e3, e4, e5, e6, e7, g1, g2, i1, i2, lm, hne, hf6, h99, k99, j0, j1, j2, j3, kk, hk2, at3_5, at4_5, chl, chh, cs, flX]
  · refine ⟨sl, .tup _, a6, b6, .inl rfl, by omega, (A.set k1 (MB _ m3)).perm sp, v3, by omega, by omega, ?_⟩
    simp -implicitDefEqProofs [evx, -L2.ixN, -L2.atI, -sortedDP, ph_law_spoilt_26e7, e1, e2, e3, e4, e5, e6, e7, g1, g2, i1, i2, lm, hne, hf6, h99, k99, j0, j1, j2, j3, kk, hk2, at3_5, at4_5, chl, chh, cs, flX, e7, hsl, hsl6]
  · refine ⟨fl.set k1 (M, fl[k1].2), .tup _, a6, b6, .inl rfl, by simp; omega, A.set k1 (MB _ m3), v3, by omega, by omega, ?_⟩
    simp -implicitDefEqProofs [evx, -L2.ixN, -L2.atI, -sortedDP, ph_law_spoilt_26e7, e1, e2, e3, e4, e5, e6, e7, g1, g2, i1, i2, lm, hne, hf6, h99, k99, j0, j1, j2, j3, kk, hk2, at3_5, at4_5, chl, chh, cs, flX]
  · refine ⟨fl.set k1 (M, fl[k1].2), .tup _, a6, b6, .inl rfl, by simp; omega, A.set k1 (MB _ m3), v3, by omega, by omega, ?_⟩
    simp -implicitDefEqProofs [evx, -L2.ixN, -L2.atI, -sortedDP, ph_law_spoilt_26e7, e1, e2, e3, e4, e5, e6, e7, g1, g2, i1, i2, lm, hne, hf6, h99, k99, j0, j1, j2, j3, kk, hk2, at3_5, at4_5, chl, chh, cs, flX]
set_option maxHeartbeats 0
def el_is_lot_0224_1 : Br.Ex := .call 453 [.ref 1]
def ir_is_lot_0224 : Fn := ⟨2, 1, [0], [.ite (.or (.not (.e (.app (.isTy ["tuple"]) [.ref 0]))) (.not (.e (.chain .le .le (.cst (.int 1)) (.app .len [.ref 0]) (.cst (.int 100)))))) [.ret (.cst (.bl false))] [], .ret (.and (.app .allL [.val (.comp (.seq (.var 0)) (.one 1) [1] [] el_is_lot_0224_1)]) (.app .eq [.val (.app .list1 [.ref 0]), .val (.app .sortedD [.ref 0])]))]⟩
def ph_is_lot_0224 : Nat → List LV → CR := fun j => match j with | 453 => g_is_size_8851 | _ => fun _ => .st
def g_is_lot_0224 : List LV → CR := runFn ph_is_lot_0224 1000000 ir_is_lot_0224
-- use: U_cts U_list U_known U_comp U_idx U_lotb U_xd U_jdg
theorem blsOf_map {α : Type} (l : List α) (f : α → Bool) : blsOf (l.map fun x => PV.bl (f x)) = some (l.map f) := by
  induction l with
  | nil => rfl
  | cons x l ih => simp [blsOf, ih]
theorem allL_map {α : Type} (l : List α) (f : α → Bool) : allLP [.lst (l.map fun x => PV.bl (f x))] = some (.bl (l.all f)) := by
  show (blsOf (l.map fun x => PV.bl (f x))).map (fun ns => PV.bl (ns.all id)) = _
  rw [blsOf_map]
  simp [List.all_map]
theorem eqLst_ints (a b : List Int) : eqOP [.lst (a.map .int), .lst (b.map .int)] = some (.bl (decide (a = b))) := by
  simp -implicitDefEqProofs [evx]
/-- known lots -/
theorem islotx_0224 {L : List Int} : LotOk L → g_is_lot_0224 [.fro (xI L)] = .ok (.fro (.bl true)) [.fro (xI L)] := fun ⟨h1, h2, h3, h4⟩ => by
  have hl : L.length ≤ 1000000 := by omega
  have h1' : (1 : Int) ≤ L.length := by omega
  have h2' : (L.length : Int) ≤ 100 := by omega
  have hs : sortI L = L := sortI_id.mpr h4
  have hsd : sortedDP [.tup (L.map .int)] = some (.lst (L.map .int)) := by
    have e : sortedP [.tup (L.map .int)] = some (.lst (L.map .int)) := by
      show (intsOf (L.map .int)).map (fun ns => PV.lst ((sortI ns).map .int)) = _
      rw [intsOf_map, Option.map_some, hs]
    unfold sortedDP
    rw [e]
  (unfold g_is_lot_0224 ir_is_lot_0224; rw [runFn_eq _ _ _ _ ⟨rfl, by decide, rfl⟩])
  simp -implicitDefEqProofs [evx, h1', h2', hl, -sortedDP, hsd, -List.map_map]
  rw [compL_map (h := fun _ => .bl true)]
  · simp -implicitDefEqProofs [evx, -sortedDP, hsd, -allLP, allL_true, isD_ints, hl, -List.map_map]
  · intro x hx
    obtain ⟨i, hi, rfl⟩ := List.mem_map.mp hx
    have := h3 i hi
    have e := issz_8851 i
    simp -implicitDefEqProofs [evx, el_is_lot_0224_1, ph_is_lot_0224, e, this.1, this.2]
theorem islotd_0224 {L : List Int} (hL : L.length ≤ 100000) : g_is_lot_0224 [.fro (xI L)] = .ok (.fro (.bl (lotJ L))) [.fro (xI L)] := by
  by_cases c1 : 1 ≤ L.length
  · by_cases c2 : L.length ≤ 100
    · have hl : L.length ≤ 1000000 := by omega
      have c1' : (1 : Int) ≤ L.length := by omega
      have c2' : (L.length : Int) ≤ 100 := by omega
      have hsd : sortedDP [.tup (L.map .int)] = some (.lst ((sortI L).map .int)) := by
        have e : sortedP [.tup (L.map .int)] = some (.lst ((sortI L).map .int)) := by
          show (intsOf (L.map .int)).map (fun ns => PV.lst ((sortI ns).map .int)) = _
          rw [intsOf_map, Option.map_some]
        unfold sortedDP
        rw [e]
      have s6 : (sortI L).length ≤ 1000000 := by rw [sortI_len]; omega
      have eqs := eqLst_ints L (sortI L)
      have ed : decide (L = sortI L) = decide (sortI L = L) := by
        rw [decide_eq_decide]
        exact eq_comm
      rw [ed] at eqs
      have el : ∀ ρ : Br.Env, ρ = [some (.fro (xI L)), none] → compL (cF ph_is_lot_0224 (.one 1) [1] [] el_is_lot_0224_1) (L.map PV.int) ρ = .ok ((L.map fun x => decide (1 ≤ x ∧ x ≤ 1000000000000)).map .bl) ρ := fun ρ hρ => by
        subst hρ
        exact comp_bl _ fun k hk => by
          have e := issz_8851 k
          simp -implicitDefEqProofs [evx, el_is_lot_0224_1, ph_is_lot_0224, e]
      have hB : lotJ L = (L.all (fun x => decide (1 ≤ x ∧ x ≤ 1000000000000)) && decide (sortI L = L)) := by
        unfold lotJ
        simp [c1, c2]
      rw [hB]
      have ea : (L.map fun x => decide (1 ≤ x ∧ x ≤ 1000000000000)).all id = L.all fun x => decide (1 ≤ x ∧ x ≤ 1000000000000) := by
        rw [List.all_map]
        rfl
      have el := el _ rfl
      obtain ⟨S, hS⟩ : ∃ S, (L.map fun x => decide (1 ≤ x ∧ x ≤ 1000000000000)) = S := ⟨_, rfl⟩
      rw [hS] at el ea
      obtain ⟨v, hv⟩ : ∃ v, (L.all fun x => decide (1 ≤ x ∧ x ≤ 1000000000000)) = v := ⟨_, rfl⟩
      rw [hv] at ea ⊢
      cases v <;>
      · (unfold g_is_lot_0224 ir_is_lot_0224; rw [runFn_eq _ _ _ _ ⟨rfl, by decide, rfl⟩])
        simp -implicitDefEqProofs [evx, c1', c2', hl, el, -allLP, -List.map_map, allLP_bls, ea, -sortedDP, hsd, -eqOP, eqs, isD_ints, s6]
    · have c2' : ¬ (L.length : Int) ≤ 100 := by omega
      have c1' : (1 : Int) ≤ L.length := by omega
      have hB : lotJ L = false := by unfold lotJ; simp [c2]
      rw [hB]
      (unfold g_is_lot_0224 ir_is_lot_0224; rw [runFn_eq _ _ _ _ ⟨rfl, by decide, rfl⟩])
      simp -implicitDefEqProofs [evx, c1', c2']
  · have c1' : ¬ (1 : Int) ≤ L.length := by omega
    have hB : lotJ L = false := by unfold lotJ; simp [c1]
    rw [hB]
    (unfold g_is_lot_0224 ir_is_lot_0224; rw [runFn_eq _ _ _ _ ⟨rfl, by decide, rfl⟩])
    simp -implicitDefEqProofs [evx, c1']
set_option maxHeartbeats 0
def bd_law_heap_f563_1 : List Br.St := [.setIx 4 (.call 328 [.ref 0, .ref 2]) (.call 204 [.ref 0, .ref 3])]
def el_law_heap_f563_1 : Br.Ex := .tup [.var 6, .app .idx [.ref 4, .ref 6]]
def ir_law_heap_f563 : Fn := ⟨7, 2, [0, 1], [.set 2 (.call 224 [.ref 0]), .set 3 (.call 361 [.ref 0, .val (.cst (.int 4))]), .set 4 (.dnew), .for (.rng1 (.call 361 [.ref 0, .val (.app .add [.ref 1, .val (.cst (.int 1))])])) (.one 5) bd_law_heap_f563_1, .ret (.tup [.var 2, .app .tupleX [.val (.comp (.seq (.app .sortedD [.ref 4])) (.one 6) [6] [] el_law_heap_f563_1)]])]⟩
def ph_law_heap_f563 : Nat → List LV → CR := fun j => match j with | 204 => g_law_many_ce94 | 224 => g_law_need_2946 | 328 => g_law_size_3721 | 361 => g_law_take_481c | _ => fun _ => .st
def g_law_heap_f563 : List LV → CR := runFn ph_law_heap_f563 1000000 ir_law_heap_f563
-- use: U_pot U_cts U_list
def keyP' (c : List (Int × Int)) (p : PV) : PV := .tup [.int p.i, .int (tally c p.i)]
theorem heap_f563 {a b c m : Int} (ha : 0 ≤ a) (hb : 0 ≤ b) (hb2 : b ≤ 1000000000000) (hm : 0 ≤ m) (hm2 : m ≤ 60) : ∃ (n : Int) (ks : List (Int × Int)) (a' b' : Int), 1 ≤ n ∧ n ≤ 1000000000000 ∧ Kinds ks ∧ (∀ q ∈ ks, 1 ≤ q.1 ∧ q.1 ≤ 1000000000000 ∧ 1 ≤ q.2 ∧ q.2 ≤ 1000000000000) ∧ (ks.length : Int) ≤ m ∧ 0 ≤ a' ∧ b ≤ b' ∧ b' ≤ b + 5000 ∧ g_law_heap_f563 [pt a b c, .fro (.int m)] = .ok (.fro (hp n ks)) [pt a' b' c, .fro (.int m)] := by
  obtain ⟨n, a1, b1, h1, h2, h3, h4, h5, e1⟩ := need_2946 (c := c) ha hb (by omega)
  obtain ⟨k, a2, b2, i1, i2, i3, i4, i5, e2⟩ := take_481c (c := c) (m := 4) h3 (show 0 ≤ b1 by omega) (by omega) (by omega) (by omega)
  obtain ⟨t, a3, b3, j1, j2, j3, j4, j5, e3⟩ := take_481c (c := c) (m := m + 1) i3 (show 0 ≤ b2 by omega) (by omega) (by omega) (by omega)
  have hr : rngOk t := rng_ok (by omega) (by omega)
  obtain ⟨ρ, e4, kv, a4, b4, s5, nd, hkv, hlen, ha4, hb41, hb42, rfl⟩ := forL_inv (f := bindS (exSs ph_law_heap_f563 1000000 bd_law_heap_f563_1) (.one 5)) (xs := rngP 0 t) (ρ := [some (pt a3 b3 c), some (.fro (.int m)), some (.fro (.int n)), some (.fro (.int k)), some (.own (.dK [] [])), none, none])
    (fun i ρ => ∃ (kv : List (Int × Int)) (a' b' : Int) (s : Option LV), (keysL kv).Nodup ∧ (∀ q ∈ kv, (1 ≤ q.1 ∧ q.1 ≤ 1000000000000) ∧ 1 ≤ q.2 ∧ q.2 ≤ 1000000000000) ∧ kv.length ≤ i ∧ 0 ≤ a' ∧ b3 ≤ b' ∧ b' ≤ b3 + 21 * i ∧ ρ = [some (pt a' b' c), some (.fro (.int m)), some (.fro (.int n)), some (.fro (.int k)), some (.own (dk kv)), s, none])
    ⟨[], a3, b3, none, by simp [keysL], by simp, by simp, j3, by omega, by omega, rfl⟩
    (fun i x ρ hx hi => by
      obtain ⟨kv, a', b', s, nd, hkv, hlen, ha', hb1', hb2', rfl⟩ := hi
      obtain ⟨rfl, hi2⟩ := rngP_at hx
      have hi3 : (i : Int) < 61 := by omega
      obtain ⟨v, a5, b5, p1, p2, p3, p4, p5, f1⟩ := many_ce94 (c := c) ha' (show 0 ≤ b' by omega) (by omega) i1 i2
      obtain ⟨z, a6, b6, r1, r2, r3, r4, r5, f2⟩ := size_3721 (c := c) (n := n) p3 (show 0 ≤ b5 by omega) (by omega) h1 h2
      have ep := dk_put kv z v (by omega)
      have hpl := putL_len z v kv
      refine ⟨[some (pt a6 b6 c), some (.fro (.int m)), some (.fro (.int n)), some (.fro (.int k)), some (.own (dk (putL z v kv))), some (.fro (.int (0 + (i : Int)))), none], .inl ?_, putL z v kv, a6, b6, _, putL_nd nd, fun q hq => ?_, by omega, r3, by omega, by omega, rfl⟩
      · simp -implicitDefEqProofs [evx, bd_law_heap_f563_1, ph_law_heap_f563, f1, f2, -setIxP, ep]
      · rcases putL_mem hq with rfl | hq
        · exact ⟨⟨r1, r2⟩, p1, p2⟩
        · exact hkv q hq)
  rw [rngP_len] at hlen hb42
  have hl64 : kv.length < 64 := by omega
  have hs : sortedDP [dk kv] = some (.lst ((sortI (keysL kv)).map .int)) := by
    have e0 : sortedP [dk kv] = if (kv.map fun q => (Sum.inl q.1 : Int ⊕ PySem.Str)).length < 64 then (intKeys (kv.map fun q => (Sum.inl q.1 : Int ⊕ PySem.Str))).map fun ns => .lst ((sortI ns).map .int) else none := rfl
    have e1 : sortedP [dk kv] = some (.lst ((sortI (keysL kv)).map .int)) := by rw [e0, List.length_map, if_pos hl64, intKeys_map]; rfl
    unfold sortedDP
    rw [e1]
  have hpos : ∀ k ∈ sortI (keysL kv), 0 < tally kv k := fun k hk => by
    have hk := (sortI_perm (keysL kv)).mem_iff.mp hk
    unfold keysL at hk
    obtain ⟨q, hq, rfl⟩ := List.mem_map.mp hk
    rw [tally_mem nd hq]
    have := hkv q hq
    omega
  have hcan : canon kv = (sortI (keysL kv)).map fun k => (k, tally kv k) := by
    unfold canon
    rw [List.filter_eq_self.mpr fun k hk => by simpa using hpos k hk]
  have hslen : (sortI (keysL kv)).length ≤ 1000000 := by
    rw [(sortI_perm (keysL kv)).length_eq]; unfold keysL; simp; omega
  refine ⟨n, canon kv, a4, b4, h1, h2, canon_kinds nd, fun q hq => ?_, ?_, ha4, by omega, by omega, ?_⟩
  · obtain ⟨c1, c2, c3⟩ := canon_mem.mp hq
    unfold keysL at c1
    obtain ⟨p, hp, e⟩ := List.mem_map.mp c1
    have := hkv p hp
    have := tally_mem nd hp
    rw [e] at this
    omega
  · have := canon_len kv
    omega
  · (unfold g_law_heap_f563 ir_law_heap_f563; rw [runFn_eq _ _ _ _ ⟨rfl, by decide, rfl⟩])
    simp -implicitDefEqProofs [evx, ph_law_heap_f563, e1, e2, e3, hr, e4, -sortedDP, hs, hslen]
    rw [compL_map (h := keyP' kv)]
    · simp -implicitDefEqProofs [evx, hcan, keyP', Function.comp_def]
    · intro x hx
      obtain ⟨k, hk, rfl⟩ := List.mem_map.mp hx
      have hi := idx_dk ((sortI_perm (keysL kv)).mem_iff.mp hk)
      simp -implicitDefEqProofs [evx, el_law_heap_f563_1, -idxP, hi, keyP']
set_option maxHeartbeats 0
def bd_law_small_heap_5a72_1 : List Br.St := [.set 6 (.app .max2 [.val (.call 328 [.ref 0, .ref 2]), .val (.app .fdiv [.val (.app .fdiv [.val (.app .add [.ref 2, .val (.cst (.int 9))]), .val (.app .idx [.val (.lst [.cst (.int 3), .cst (.int 5), .cst (.int 10), .cst (.int 4)]), .val (.call 361 [.ref 0, .val (.cst (.int 4))])])]), .val (.cst (.int 2))])]), .setIx 4 (.app .max2 [.val (.cst (.int 1)), .ref 6]) (.call 204 [.ref 0, .ref 3])]
def el_law_small_heap_5a72_1 : Br.Ex := .tup [.var 6, .app .idx [.ref 4, .ref 6]]
def ir_law_small_heap_5a72 : Fn := ⟨7, 2, [0, 1], [.set 2 (.call 224 [.ref 0]), .set 3 (.call 361 [.ref 0, .val (.cst (.int 4))]), .set 4 (.dnew), .for (.rng1 (.call 361 [.ref 0, .val (.app .add [.ref 1, .val (.cst (.int 1))])])) (.one 5) bd_law_small_heap_5a72_1, .ret (.tup [.var 2, .app .tupleX [.val (.comp (.seq (.app .sortedD [.ref 4])) (.one 6) [6] [] el_law_small_heap_5a72_1)]])]⟩
def ph_law_small_heap_5a72 : Nat → List LV → CR := fun j => match j with | 204 => g_law_many_ce94 | 224 => g_law_need_2946 | 328 => g_law_size_3721 | 361 => g_law_take_481c | _ => fun _ => .st
def g_law_small_heap_5a72 : List LV → CR := runFn ph_law_small_heap_5a72 1000000 ir_law_small_heap_5a72
-- use: U_pot U_cts U_list
def keyS' (c : List (Int × Int)) (p : PV) : PV := .tup [.int p.i, .int (tally c p.i)]
theorem small_5a72 {a b c m : Int} (ha : 0 ≤ a) (hb : 0 ≤ b) (hb2 : b ≤ 1000000000000) (hm : 0 ≤ m) (hm2 : m ≤ 60) : ∃ (n : Int) (ks : List (Int × Int)) (a' b' : Int), 1 ≤ n ∧ n ≤ 1000000000000 ∧ Kinds ks ∧ (∀ q ∈ ks, 1 ≤ q.1 ∧ q.1 ≤ 1000000000000 ∧ 1 ≤ q.2 ∧ q.2 ≤ 1000000000000) ∧ (ks.length : Int) ≤ m ∧ 0 ≤ a' ∧ b ≤ b' ∧ b' ≤ b + 5000 ∧ g_law_small_heap_5a72 [pt a b c, .fro (.int m)] = .ok (.fro (hp n ks)) [pt a' b' c, .fro (.int m)] := by
  obtain ⟨n, a1, b1, h1, h2, h3, h4, h5, e1⟩ := need_2946 (c := c) ha hb (by omega)
  obtain ⟨k, a2, b2, i1, i2, i3, i4, i5, e2⟩ := take_481c (c := c) (m := 4) h3 (show 0 ≤ b1 by omega) (by omega) (by omega) (by omega)
  obtain ⟨t, a3, b3, j1, j2, j3, j4, j5, e3⟩ := take_481c (c := c) (m := m + 1) i3 (show 0 ≤ b2 by omega) (by omega) (by omega) (by omega)
  have hr : rngOk t := rng_ok (by omega) (by omega)
  obtain ⟨ρ, e4, kv, a4, b4, s5, s6, nd, hkv, hlen, ha4, hb41, hb42, rfl⟩ := forL_inv (f := bindS (exSs ph_law_small_heap_5a72 1000000 bd_law_small_heap_5a72_1) (.one 5)) (xs := rngP 0 t) (ρ := [some (pt a3 b3 c), some (.fro (.int m)), some (.fro (.int n)), some (.fro (.int k)), some (.own (.dK [] [])), none, none])
    (fun i ρ => ∃ (kv : List (Int × Int)) (a' b' : Int) (s s6 : Option LV), (keysL kv).Nodup ∧ (∀ q ∈ kv, (1 ≤ q.1 ∧ q.1 ≤ 1000000000000) ∧ 1 ≤ q.2 ∧ q.2 ≤ 1000000000000) ∧ kv.length ≤ i ∧ 0 ≤ a' ∧ b3 ≤ b' ∧ b' ≤ b3 + 22 * i ∧ ρ = [some (pt a' b' c), some (.fro (.int m)), some (.fro (.int n)), some (.fro (.int k)), some (.own (dk kv)), s, s6])
    ⟨[], a3, b3, none, none, by simp [keysL], by simp, by simp, j3, by omega, by omega, rfl⟩
    (fun i x ρ hx hi => by
      obtain ⟨kv, a', b', s, s6, nd, hkv, hlen, ha', hb1', hb2', rfl⟩ := hi
      obtain ⟨rfl, hi2⟩ := rngP_at hx
      have hi3 : (i : Int) < 61 := by omega
      obtain ⟨z, a6, b6, r1, r2, r3, r4, r5, f2⟩ := size_3721 (c := c) (n := n) ha' (show 0 ≤ b' by omega) (by omega) h1 h2
      obtain ⟨w, a7, b7, u1, u2, u3, u4, u5, f3⟩ := take_481c (c := c) (m := 4) r3 (show 0 ≤ b6 by omega) (by omega) (by omega) (by omega)
      obtain ⟨v, a5, b5, p1, p2, p3, p4, p5, f1⟩ := many_ce94 (c := c) u3 (show 0 ≤ b7 by omega) (by omega) i1 i2
      obtain ⟨d, hd, ed⟩ := atI_4 (P := fun d => 3 ≤ d ∧ d ≤ 10) (a := 3) (b := 5) (c := 10) (d := 4) u1 u2 (by omega) (by omega) (by omega) (by omega)
      have hd0 : 0 < d := by omega
      have hd9 : d.natAbs.log2 < 9000 := log2_lt_9000 (by omega)
      have X0 : 0 ≤ (n + 9) / d := Int.ediv_nonneg (by omega) (by omega)
      have X1 : (n + 9) / d ≤ n + 9 := Int.ediv_le_self d (by omega)
      obtain ⟨y, hy⟩ : ∃ y : Int, (if z < (n + 9) / d / 2 then (n + 9) / d / 2 else z) = y := ⟨_, rfl⟩
      have hy1 : 1 ≤ y ∧ y ≤ 1000000000000 := by
        rw [← hy]
        split <;> omega
      obtain ⟨y2, hy2⟩ : ∃ y2 : Int, (if 1 < y then y else 1) = y2 := ⟨_, rfl⟩
      have hy3 : 1 ≤ y2 ∧ y2 ≤ 1000000000000 := by
        rw [← hy2]
        split <;> omega
      have ep := dk_put kv y2 v (by omega)
      have hpl := putL_len y2 v kv
      refine ⟨[some (pt a5 b5 c), some (.fro (.int m)), some (.fro (.int n)), some (.fro (.int k)), some (.own (dk (putL y2 v kv))), some (.fro (.int (0 + (i : Int)))), some (.fro (.int y))], .inl ?_, putL y2 v kv, a5, b5, _, _, putL_nd nd, fun q hq => ?_, by omega, p3, by omega, by omega, rfl⟩
      · simp -implicitDefEqProofs [evx, bd_law_small_heap_5a72_1, ph_law_small_heap_5a72, f1, f2, f3, ed, hd0, hd9, hy, hy2, -setIxP, ep]
      · rcases putL_mem hq with rfl | hq
        · exact ⟨⟨hy3.1, hy3.2⟩, p1, p2⟩
        · exact hkv q hq)
  rw [rngP_len] at hlen hb42
  have hl64 : kv.length < 64 := by omega
  have hs : sortedDP [dk kv] = some (.lst ((sortI (keysL kv)).map .int)) := by
    have e0 : sortedP [dk kv] = if (kv.map fun q => (Sum.inl q.1 : Int ⊕ PySem.Str)).length < 64 then (intKeys (kv.map fun q => (Sum.inl q.1 : Int ⊕ PySem.Str))).map fun ns => .lst ((sortI ns).map .int) else none := rfl
    have e1 : sortedP [dk kv] = some (.lst ((sortI (keysL kv)).map .int)) := by rw [e0, List.length_map, if_pos hl64, intKeys_map]; rfl
    unfold sortedDP
    rw [e1]
  have hpos : ∀ k ∈ sortI (keysL kv), 0 < tally kv k := fun k hk => by
    have hk := (sortI_perm (keysL kv)).mem_iff.mp hk
    unfold keysL at hk
    obtain ⟨q, hq, rfl⟩ := List.mem_map.mp hk
    rw [tally_mem nd hq]
    have := hkv q hq
    omega
  have hcan : canon kv = (sortI (keysL kv)).map fun k => (k, tally kv k) := by
    unfold canon
    rw [List.filter_eq_self.mpr fun k hk => by simpa using hpos k hk]
  have hslen : (sortI (keysL kv)).length ≤ 1000000 := by
    rw [(sortI_perm (keysL kv)).length_eq]; unfold keysL; simp; omega
  refine ⟨n, canon kv, a4, b4, h1, h2, canon_kinds nd, fun q hq => ?_, ?_, ha4, by omega, by omega, ?_⟩
  · obtain ⟨c1, c2, c3⟩ := canon_mem.mp hq
    unfold keysL at c1
    obtain ⟨p, hp, e⟩ := List.mem_map.mp c1
    have := hkv p hp
    have := tally_mem nd hp
    rw [e] at this
    omega
  · have := canon_len kv
    omega
  · (unfold g_law_small_heap_5a72 ir_law_small_heap_5a72; rw [runFn_eq _ _ _ _ ⟨rfl, by decide, rfl⟩])
    simp -implicitDefEqProofs [evx, ph_law_small_heap_5a72, e1, e2, e3, hr, e4, -sortedDP, hs, hslen]
    rw [compL_map (h := keyS' kv)]
    · simp -implicitDefEqProofs [evx, hcan, keyS', Function.comp_def]
    · intro x hx
      obtain ⟨k, hk, rfl⟩ := List.mem_map.mp hx
      have hi := idx_dk ((sortI_perm (keysL kv)).mem_iff.mp hk)
      simp -implicitDefEqProofs [evx, el_law_small_heap_5a72_1, -idxP, hi, keyS']
set_option maxHeartbeats 0
def bd_filling_holds_0f56_1 : List Br.St := [.ite (.or (.not (.e (.call 451 [.ref 2]))) (.or (.not (.e (.call 445 [.val (.app .idx [.ref 0, .val (.cst (.int 0))]), .ref 2]))) (.e (.app .lt [.ref 3, .val (.cst (.int 1))])))) [.ret (.cst (.bl false))] []]
def el_filling_holds_0f56_1 : Br.Ex := .app .lt [.val (.app .idx [.val (.app .idx [.ref 1, .val (.app .sub [.ref 4, .val (.cst (.int 1))])]), .val (.cst (.int 0))]), .val (.app .idx [.val (.app .idx [.ref 1, .ref 4]), .val (.cst (.int 0))])]
def ir_filling_holds_0f56 : Fn := ⟨5, 2, [0, 1], [.for (.seq (.var 1)) (.tup [.one 2, .one 3]) bd_filling_holds_0f56_1, .ite (.not (.e (.app .allL [.val (.comp (.rng2 (.cst (.int 1)) (.app .len [.ref 1])) (.one 4) [4] [] el_filling_holds_0f56_1)]))) [.ret (.cst (.bl false))] [], .ret (.app .isNN [.val (.callT 621 [.ref 0] 423 [.ref 1] [])])]⟩
def ph_filling_holds_0f56 : Nat → List LV → CR := fun j => match j with | 423 => g_counts_taken_de42 | 445 => g_is_full_ffcd | 451 => g_is_lot_0224 | 621 => g_taken_from_7a45 | _ => fun _ => .st
def g_filling_holds_0f56 : List LV → CR := runFn ph_filling_holds_0f56 1000000 ir_filling_holds_0f56
-- use: U_cts U_pool U_list U_xd U_jdg
/-- the lots of a filling: full, in order, no two alike -/
def LotsOk (n : Int) (fl : List (List Int × Int)) : Prop := (∀ q ∈ fl, LotOk q.1 ∧ n ≤ q.1.sum ∧ 1 ≤ q.2 ∧ q.2 < 18446744073709551616) ∧ ∀ (i : Nat) (a b : List Int × Int), fl[i]? = some a → fl[i + 1]? = some b → ltI a.1 b.1 = true
/-- known lots -/
theorem fhx_loop {n : Int} {ks : List (Int × Int)} {p : PV} : ∀ (fl : List (List Int × Int)) (l_lot l_times : Option LV), (∀ q ∈ fl, LotOk q.1 ∧ n ≤ q.1.sum ∧ 1 ≤ q.2 ∧ q.2 < 18446744073709551616) →
    ∃ m_lot m_times, forL (bindS (exSs ph_filling_holds_0f56 1000000 bd_filling_holds_0f56_1) (.tup [.one 2, .one 3])) (fl.map flX) [some (.fro (hp n ks)), some (.fro (p)), (l_lot), (l_times), none] = .nx [some (.fro (hp n ks)), some (.fro (p)), (m_lot), (m_times), none]
  | [], a, b, _ => ⟨a, b, rfl⟩
  | q :: fl, a, b, h => by
    obtain ⟨h1, h2, h3, h4⟩ := h q (by simp)
    obtain ⟨m1, m2, e⟩ := fhx_loop fl (some (.fro (xI q.1))) (some (.fro (.int q.2))) fun r hr => h r (by simp [hr])
    refine ⟨m1, m2, ?_⟩
    rw [List.map_cons]
    unfold forL
    have e1 := islotx_0224 h1
    have e2 := fullx_ffcd (L := q.1) (n := n)
    have h3' : ¬ q.2 < 1 := by omega
    have E : bindS (exSs ph_filling_holds_0f56 1000000 bd_filling_holds_0f56_1) (.tup [.one 2, .one 3]) (flX q) [some (.fro (hp n ks)), some (.fro (p)), (a), (b), none] = .nx [some (.fro (hp n ks)), some (.fro (p)), some (.fro (xI q.1)), some (.fro (.int (q.2))), none] := by
      simp -implicitDefEqProofs [evx, bd_filling_holds_0f56_1, ph_filling_holds_0f56, flX, e1, e2, h2, h3']
    rw [E]
    exact e
theorem fholdsx_0f56 {n : Int} {ks : List (Int × Int)} {fl : List (List Int × Int)} {p : PV} (hp' : FlX fl p) (nk : (keysL ks).Nodup) (hks : ks.length < 64) (hfl : fl.length ≤ 800) (ok : LotsOk n fl) (take : ∀ k, used fl k ≤ tally ks k) :
    g_filling_holds_0f56 [.fro (hp n ks), .fro p] = .ok (.fro (.bl true)) [.fro (hp n ks), .fro p] := by
  obtain ⟨m1, m2, e⟩ := fhx_loop (n := n) (ks := ks) (p := p) fl none none ok.1
  have ct := ctakx_de42 hp' (fun q hq => by
    obtain ⟨⟨_, a, _, _⟩, _, b, c⟩ := ok.1 q hq
    exact ⟨by omega, by omega⟩) hfl
  have pos : ∀ k ∈ keysL (takes fl), 0 < used fl k := fun k hk => by
    obtain ⟨q, hq, hkq⟩ := (takes_keys fl k).mp hk
    have nn : ∀ l : List (List Int × Int), (∀ q ∈ l, (0 : Int) ≤ q.2) → 0 ≤ used l k := fun l => by
      induction l with
      | nil => intro _; simp [used]
      | cons x l ih =>
        intro h
        have h1 := ih fun y hy => h y (by simp [hy])
        have h2 := Int.mul_nonneg (show (0 : Int) ≤ (x.1.count k : Int) by omega) (h x (by simp))
        unfold used at h1 ⊢
        rw [List.map_cons, List.sum_cons]
        omega
    have gen : ∀ l : List (List Int × Int), (∀ q ∈ l, (1 : Int) ≤ q.2) → q ∈ l → 0 < used l k := fun l => by
      induction l with
      | nil => intro _ h; cases h
      | cons x l ih =>
        intro h hm
        have h0 := nn l fun y hy => by have := h y (by simp [hy]); omega
        have h2 := Int.mul_nonneg (show (0 : Int) ≤ (x.1.count k : Int) by omega) (show (0 : Int) ≤ x.2 by have := h x (by simp); omega)
        unfold used at h0 ⊢
        rw [List.map_cons, List.sum_cons]
        rcases List.mem_cons.mp hm with rfl | hm
        · have h3 : 0 < q.1.count k := List.count_pos_iff.mpr hkq
          have h4 := h q (by simp)
          have := Int.mul_pos (show (0 : Int) < (q.1.count k : Int) by omega) (show (0 : Int) < q.2 by omega)
          omega
        · have := ih (fun y hy => h y (by simp [hy])) hm
          unfold used at this
          omega
    exact gen fl (fun r hr => (ok.1 r hr).2.2.1) hq
  have sub : ∀ k ∈ keysL (takes fl), k ∈ keysL ks := fun k hk => by
    by_cases z : k ∈ keysL ks
    · exact z
    · have := pos k hk
      have := take k
      rw [tally_none z] at this
      omega
  have lt := len_sub (takes_nd fl) sub
  obtain ⟨tf, _⟩ := tfrom_7a45 (n := n) nk (takes_nd fl) (by omega) (by omega)
  have hla := len_all_old (c := ks) (l := negL (takes fl)) (by rw [keys_neg]; exact sub)
  have tf := tf (fun q hq => by
    have h1 := tally_mem (takes_nd fl) hq
    rw [takes_tally] at h1
    have := take q.1
    omega) (by omega)
  have hfl6 : fl.length ≤ 1000000 := by omega
  have hrl : (rngP 1 (fl.length : Int)).length ≤ 1000000 := by rw [rngP_len]; omega
  have hr : rngOk (fl.length : Int) := rng_ok (by omega) (by omega)
  have hr1 : rngOk 1 := rng_ok (by omega) (by omega)
  have at1 : ∀ x ∈ rngP 1 (fl.length : Int), ∃ a b : List Int × Int, x.i = x.i ∧ x = .int x.i ∧ L2.atI (fl.map flX) (x.i - 1) = some (flX a) ∧ L2.atI (fl.map flX) x.i = some (flX b) ∧ ltI a.1 b.1 = true := fun x hx => by
    obtain ⟨i, rfl, h0, h1⟩ := rngP_mem hx
    obtain ⟨j, rfl⟩ : ∃ j : Nat, i = (j : Int) + 1 := ⟨(i - 1).toNat, by omega⟩
    have ha : fl[j]? = some fl[j] := List.getElem?_eq_getElem (by omega)
    have hb : fl[j + 1]? = some fl[j + 1] := List.getElem?_eq_getElem (by omega)
    refine ⟨fl[j], fl[j + 1], rfl, rfl, ?_, ?_, ok.2 j _ _ ha hb⟩
    · rw [show (PV.int ((j : Int) + 1)).i - 1 = (j : Int) by show (j : Int) + 1 - 1 = j; omega]
      exact atI_n _ _ _ (by rw [List.getElem?_map, ha]; rfl)
    · rw [show (PV.int ((j : Int) + 1)).i = ((j + 1 : Nat) : Int) by show (j : Int) + 1 = _; omega]
      exact atI_n _ _ _ (by rw [List.getElem?_map, hb]; rfl)
  rcases hp' with rfl | rfl | rfl
  all_goals
    (unfold g_filling_holds_0f56 ir_filling_holds_0f56; rw [runFn_eq _ _ _ _ ⟨rfl, by decide, rfl⟩])
    simp -implicitDefEqProofs [evx, e, hfl6, hrl, hr, hr1]
    rw [compL_map (h := fun _ => .bl true)]
    · simp -implicitDefEqProofs [evx, -allLP, allL_true, hrl, ph_filling_holds_0f56, ct, tf, -List.map_const']
    · intro x hx
      obtain ⟨a, b, _, hx2, e1, e2, e3⟩ := at1 x hx
      generalize x.i = i at hx2 e1 e2
      subst hx2
      have e4 := ltOP_ints a.1 b.1
      simp -implicitDefEqProofs [evx, el_filling_holds_0f56_1, e1, e2, flX, -ltOP, e4, e3]
theorem fholdsx_no {n : Int} {ks : List (Int × Int)} {fl : List (List Int × Int)} {p : PV} (hp' : FlX fl p) (nk : (keysL ks).Nodup) (hks : ks.length < 64) (hfl : fl.length ≤ 800) (ok : LotsOk n fl) (nn : ∀ k, 0 ≤ tally ks k) (take : ∃ k, tally ks k < used fl k) :
    g_filling_holds_0f56 [.fro (hp n ks), .fro p] = .ok (.fro (.bl false)) [.fro (hp n ks), .fro p] := by
  obtain ⟨m1, m2, e⟩ := fhx_loop (n := n) (ks := ks) (p := p) fl none none ok.1
  have ct := ctakx_de42 hp' (fun q hq => by
    obtain ⟨⟨_, a, _, _⟩, _, b, c⟩ := ok.1 q hq
    exact ⟨by omega, by omega⟩) hfl
  have tl : (takes fl).length ≤ 100000 := by
    have : ∀ (fl : List (List Int × Int)) (c : List (Int × Int)), (∀ q ∈ fl, q.1.length ≤ 100) → (fl.foldl (fun c q => addAll c (timesL (cnt q.1) q.2)) c).length ≤ c.length + 100 * fl.length := fun fl => by
      induction fl with
      | nil => intro c _; simp
      | cons q fl ih =>
        intro c h
        rw [List.foldl_cons, List.length_cons]
        have h1 := ih (addAll c (timesL (cnt q.1) q.2)) fun r hr => h r (by simp [hr])
        have h2 := len_all (timesL (cnt q.1) q.2) c
        have h3 : (timesL (cnt q.1) q.2).length = (cnt q.1).length := by unfold timesL; simp
        have h4 := cnt_len q.1
        have h5 := h q (by simp)
        omega
    have := this fl [] fun q hq => (ok.1 q hq).1.2.1
    unfold takes
    simp at this ⊢
    omega
  obtain ⟨_, tf⟩ := tfrom_7a45 (n := n) nk (takes_nd fl) (by omega) tl
  obtain ⟨k0, hk0⟩ := take
  have hk1 : k0 ∈ keysL (takes fl) := by
    by_cases z : k0 ∈ keysL (takes fl)
    · exact z
    · have := tally_none z
      rw [takes_tally] at this
      have := nn k0
      omega
  obtain ⟨q0, hq0, rfl⟩ := List.mem_map.mp hk1
  have tf := tf ⟨q0, hq0, by
    have h1 := tally_mem (takes_nd fl) hq0
    rw [takes_tally] at h1
    omega⟩
  have hfl6 : fl.length ≤ 1000000 := by omega
  have hrl : (rngP 1 (fl.length : Int)).length ≤ 1000000 := by rw [rngP_len]; omega
  have hr : rngOk (fl.length : Int) := rng_ok (by omega) (by omega)
  have hr1 : rngOk 1 := rng_ok (by omega) (by omega)
  have at1 : ∀ x ∈ rngP 1 (fl.length : Int), ∃ a b : List Int × Int, x.i = x.i ∧ x = .int x.i ∧ L2.atI (fl.map flX) (x.i - 1) = some (flX a) ∧ L2.atI (fl.map flX) x.i = some (flX b) ∧ ltI a.1 b.1 = true := fun x hx => by
    obtain ⟨i, rfl, h0, h1⟩ := rngP_mem hx
    obtain ⟨j, rfl⟩ : ∃ j : Nat, i = (j : Int) + 1 := ⟨(i - 1).toNat, by omega⟩
    have ha : fl[j]? = some fl[j] := List.getElem?_eq_getElem (by omega)
    have hb : fl[j + 1]? = some fl[j + 1] := List.getElem?_eq_getElem (by omega)
    refine ⟨fl[j], fl[j + 1], rfl, rfl, ?_, ?_, ok.2 j _ _ ha hb⟩
    · rw [show (PV.int ((j : Int) + 1)).i - 1 = (j : Int) by show (j : Int) + 1 - 1 = j; omega]
      exact atI_n _ _ _ (by rw [List.getElem?_map, ha]; rfl)
    · rw [show (PV.int ((j : Int) + 1)).i = ((j + 1 : Nat) : Int) by show (j : Int) + 1 = _; omega]
      exact atI_n _ _ _ (by rw [List.getElem?_map, hb]; rfl)
  rcases hp' with rfl | rfl | rfl
  all_goals
    (unfold g_filling_holds_0f56 ir_filling_holds_0f56; rw [runFn_eq _ _ _ _ ⟨rfl, by decide, rfl⟩])
    simp -implicitDefEqProofs [evx, e, hfl6, hrl, hr, hr1]
    rw [compL_map (h := fun _ => .bl true)]
    · simp -implicitDefEqProofs [evx, -allLP, allL_true, hrl, ph_filling_holds_0f56, ct, tf, -List.map_const']
    · intro x hx
      obtain ⟨a, b, _, hx2, e1, e2, e3⟩ := at1 x hx
      generalize x.i = i at hx2 e1 e2
      subst hx2
      have e4 := ltOP_ints a.1 b.1
      simp -implicitDefEqProofs [evx, el_filling_holds_0f56_1, e1, e2, flX, -ltOP, e4, e3]
theorem fhj_loop {n : Int} {ks : List (Int × Int)} {p : PV} : ∀ (fl : List (List Int × Int)) (l_lot l_times : Option LV), (∀ q ∈ fl, q.1.length ≤ 1000) → fl.all (goodJ n) = false →
    ∃ m_lot m_times, forL (bindS (exSs ph_filling_holds_0f56 1000000 bd_filling_holds_0f56_1) (.tup [.one 2, .one 3])) (fl.map flX) [some (.fro (hp n ks)), some (.fro (p)), (l_lot), (l_times), none] = .rt (.fro (.bl false)) [some (.fro (hp n ks)), some (.fro (p)), (m_lot), (m_times), none]
  | [], a, b, _, h => by simp at h
  | q :: fl, a, b, hl, h => by
    have h1 := islotd_0224 (L := q.1) (by have := hl q (by simp); omega)
    have e2 := fullx_ffcd (L := q.1) (n := n)
    rw [List.map_cons]
    unfold forL
    cases g : goodJ n q with
    | true =>
      obtain ⟨⟨h3, h4⟩, h5⟩ : (lotJ q.1 = true ∧ n ≤ q.1.sum) ∧ 1 ≤ q.2 := by
        unfold goodJ at g
        simpa using g
      have h5' : ¬ q.2 < 1 := by omega
      rw [h3] at h1
      rw [List.all_cons, g, Bool.true_and] at h
      obtain ⟨m1, m2, e⟩ := fhj_loop fl (some (.fro (xI q.1))) (some (.fro (.int q.2))) (fun r hr => hl r (by simp [hr])) h
      refine ⟨m1, m2, ?_⟩
      have E : bindS (exSs ph_filling_holds_0f56 1000000 bd_filling_holds_0f56_1) (.tup [.one 2, .one 3]) (flX q) [some (.fro (hp n ks)), some (.fro (p)), (a), (b), none] = .nx [some (.fro (hp n ks)), some (.fro (p)), some (.fro (xI q.1)), some (.fro (.int (q.2))), none] := by
        simp -implicitDefEqProofs [evx, bd_filling_holds_0f56_1, ph_filling_holds_0f56, flX, h1, e2, h4, h5']
      rw [E]
      exact e
    | false =>
      refine ⟨some (.fro (xI q.1)), some (.fro (.int q.2)), ?_⟩
      have E : bindS (exSs ph_filling_holds_0f56 1000000 bd_filling_holds_0f56_1) (.tup [.one 2, .one 3]) (flX q) [some (.fro (hp n ks)), some (.fro (p)), (a), (b), none] = .rt (.fro (.bl false)) [some (.fro (hp n ks)), some (.fro (p)), some (.fro (xI q.1)), some (.fro (.int (q.2))), none] := by
        unfold goodJ at g
        generalize lotJ q.1 = v at *
        cases v with
        | false => simp -implicitDefEqProofs [evx, bd_filling_holds_0f56_1, ph_filling_holds_0f56, flX, h1]
        | true =>
          by_cases h4 : n ≤ q.1.sum
          · have h5 : q.2 < 1 := by
              rw [decide_eq_true h4] at g
              simpa using g
            simp -implicitDefEqProofs [evx, bd_filling_holds_0f56_1, ph_filling_holds_0f56, flX, h1, e2, h4, h5]
          · simp -implicitDefEqProofs [evx, bd_filling_holds_0f56_1, ph_filling_holds_0f56, flX, h1, e2, h4]
      rw [E]
theorem fholds_all {n : Int} {ks : List (Int × Int)} {fl : List (List Int × Int)} {p : PV} (hp' : FlX fl p) (hk : Kinds ks) (hks : ks.length < 64) (hfl : fl.length ≤ 800) (hb : ∀ q ∈ fl, q.1.length ≤ 1000 ∧ q.2.natAbs < 18446744073709551616) :
    g_filling_holds_0f56 [.fro (hp n ks), .fro p] = .ok (.fro (.bl (judgeJ n ks fl))) [.fro (hp n ks), .fro p] := by
  have nn : ∀ k, 0 ≤ tally ks k := fun k => by
    by_cases z : k ∈ keysL ks
    · obtain ⟨q, hq, rfl⟩ := List.mem_map.mp z
      rw [tally_mem hk.nd hq]
      have := hk.2 q hq
      omega
    · rw [tally_none z]; omega
  cases ca : fl.all (goodJ n) with
  | false =>
    have hj : judgeJ n ks fl = false := by unfold judgeJ; rw [ca]; rfl
    obtain ⟨m1, m2, e⟩ := fhj_loop (n := n) (ks := ks) (p := p) fl none none (fun q hq => (hb q hq).1) ca
    rw [hj]
    rcases hp' with rfl | rfl | rfl
    all_goals
      (unfold g_filling_holds_0f56 ir_filling_holds_0f56; rw [runFn_eq _ _ _ _ ⟨rfl, by decide, rfl⟩])
      simp -implicitDefEqProofs [evx, e]
  | true =>
    have hg : ∀ q ∈ fl, LotOk q.1 ∧ n ≤ q.1.sum ∧ 1 ≤ q.2 ∧ q.2 < 18446744073709551616 := fun q hq => by
      obtain ⟨a, b, c⟩ := goodJ_iff.mp (List.all_eq_true.mp ca q hq)
      have := (hb q hq).2
      exact ⟨a, b, c, by omega⟩
    cases cr : riseJ fl with
    | true =>
      have ok : LotsOk n fl := ⟨hg, riseJ_iff.mp cr⟩
      by_cases t : ∀ k, used fl k ≤ tally ks k
      · have hj : judgeJ n ks fl = true := by unfold judgeJ; rw [ca, cr, (fitsJ_iff nn).mpr t]; rfl
        rw [hj]
        exact fholdsx_0f56 hp' hk.nd hks hfl ok t
      · have hf : fitsJ ks fl = false := by
          cases z : fitsJ ks fl with
          | false => rfl
          | true => exact absurd ((fitsJ_iff nn).mp z) t
        have hj : judgeJ n ks fl = false := by unfold judgeJ; rw [ca, cr, hf]; rfl
        rw [hj]
        refine fholdsx_no hp' hk.nd hks hfl ok nn ?_
        obtain ⟨k, hk⟩ := Classical.not_forall.mp t
        exact ⟨k, by omega⟩
    | false =>
      have hj : judgeJ n ks fl = false := by unfold judgeJ; rw [ca, cr]; rfl
      rw [hj]
      obtain ⟨m1, m2, e⟩ := fhx_loop (n := n) (ks := ks) (p := p) fl none none hg
      have hfl6 : fl.length ≤ 1000000 := by omega
      have hrl : (rngP 1 (fl.length : Int)).length ≤ 1000000 := by rw [rngP_len]; omega
      have hr : rngOk (fl.length : Int) := rng_ok (by omega) (by omega)
      have hr1 : rngOk 1 := rng_ok (by omega) (by omega)
      have ra := riseJ_at fl
      rw [cr] at ra
      have hall := allL_map (rngP 1 (fl.length : Int)) (fun x => ltI (fl.getD (x.i - 1).toNat ([], 0)).1 (fl.getD x.i.toNat ([], 0)).1)
      rw [ra] at hall
      have hcm : ∀ ρ : Br.Env, ρ = [some (.fro (hp n ks)), some (.fro (p)), (m1), (m2), none] → compL (cF ph_filling_holds_0f56 (.one 4) [4] [] el_filling_holds_0f56_1) (rngP 1 (fl.length : Int)) ρ = .ok ((rngP 1 (fl.length : Int)).map fun x => PV.bl (ltI (fl.getD (x.i - 1).toNat ([], 0)).1 (fl.getD x.i.toNat ([], 0)).1)) ρ := fun ρ hρ => by
        subst hρ
        refine compL_map (h := fun x => PV.bl (ltI (fl.getD (x.i - 1).toNat ([], 0)).1 (fl.getD x.i.toNat ([], 0)).1)) fun x hx => ?_
        obtain ⟨i, rfl, h0, h1⟩ := rngP_mem hx
        obtain ⟨j, rfl⟩ : ∃ j : Nat, i = (j : Int) + 1 := ⟨(i - 1).toNat, by omega⟩
        have ha : fl[j]? = some fl[j] := List.getElem?_eq_getElem (by omega)
        have hb : fl[j + 1]? = some fl[j + 1] := List.getElem?_eq_getElem (by omega)
        have e1 : ((PV.int ((j : Int) + 1)).i - 1).toNat = j := by show ((j : Int) + 1 - 1).toNat = j; omega
        have e2 : (PV.int ((j : Int) + 1)).i.toNat = j + 1 := by show ((j : Int) + 1).toNat = j + 1; omega
        rw [e1, e2, List.getD_eq_getElem?_getD, List.getD_eq_getElem?_getD, ha, hb]
        have w1 : L2.atI (fl.map flX) (j : Int) = some (flX fl[j]) := atI_n _ _ _ (by rw [List.getElem?_map, ha]; rfl)
        have w2 : L2.atI (fl.map flX) ((j : Int) + 1) = some (flX fl[j + 1]) := atI_n _ (j + 1) _ (by rw [List.getElem?_map, hb]; rfl)
        have e4 := ltOP_ints fl[j].1 fl[j + 1].1
        have w3 : (j : Int) + 1 - 1 = j := by omega
        rcases hp' with rfl | rfl | rfl <;>
        simp -implicitDefEqProofs [evx, el_filling_holds_0f56_1, w1, w2, w3, flX, -ltOP, e4]
      have hcm := hcm _ rfl
      generalize hR : ((rngP 1 (fl.length : Int)).map fun x => PV.bl (ltI (fl.getD (x.i - 1).toNat ([], 0)).1 (fl.getD x.i.toNat ([], 0)).1)) = R at hcm hall
      rcases hp' with rfl | rfl | rfl
      all_goals
        (unfold g_filling_holds_0f56 ir_filling_holds_0f56; rw [runFn_eq _ _ _ _ ⟨rfl, by decide, rfl⟩])
        simp -implicitDefEqProofs [evx, e, hfl6, hrl, hr, hr1, hcm, -allLP, hall]
set_option maxHeartbeats 0
def bd_law_cases_0759_1 : List Br.St := [.app 1 (.tup [.var 2, .call 101 [.ref 0, .ref 2, .val (.app .add [.val (.cst (.int 1)), .val (.call 361 [.ref 0, .val (.cst (.int 4))])])]])]
def el_law_cases_0759_1 : Br.Ex := .tup [.app .add [.val (.cst (.int 1)), .val (.app .mul [.ref 4, .val (.cst (.int 2))])], .app .pow [.val (.cst (.int 10)), .val (.cst (.int 6))]]
def ir_law_cases_0759 : Fn := ⟨5, 1, [0], [.set 1 (.lst []), .for (.seq (.lst [.call 342 [.ref 0, .val (.cst (.int 6))], .call 140 [.ref 0, .val (.cst (.int 8))]])) (.one 2) bd_law_cases_0759_1, .ite (.e (.app .eq [.val (.call 361 [.ref 0, .val (.cst (.int 6))]), .val (.cst (.int 5))])) [.set 3 (.app .add [.val (.cst (.int 10)), .val (.call 361 [.ref 0, .val (.cst (.int 21))])]), .set 2 (.tup [.var 3, .app .tupleX [.val (.comp (.rng1 (.cst (.int 7))) (.one 4) [4] [] el_law_cases_0759_1)]]), .app 1 (.tup [.var 2, .call 101 [.ref 0, .ref 2, .val (.cst (.int 99))]])] [], .retV 1]⟩
def ph_law_cases_0759 : Nat → List LV → CR := fun j => match j with | 101 => g_law_filling_3337 | 140 => g_law_heap_f563 | 342 => g_law_small_heap_5a72 | 361 => g_law_take_481c | _ => fun _ => .st
def g_law_cases_0759 : List LV → CR := runFn ph_law_cases_0759 1000000 ir_law_cases_0759
-- use: U_pot U_cts U_pool U_list U_comp U_xd U_addt U_jdg
/-- a heap and a filling of it -/
def CaseOk (n : Int) (ks : List (Int × Int)) (fl : List (List Int × Int)) : Prop := 1 ≤ n ∧ n ≤ 1000000000000 ∧ Kinds ks ∧ ks.length ≤ 8 ∧ (∀ q ∈ ks, 1 ≤ q.1 ∧ q.1 ≤ 1000000000000) ∧ FilP n ks fl ∧ (keysTL fl).Pairwise (fun a b => ltI a b = true) ∧ fl.length ≤ 99 ∧ ∀ q ∈ fl, q.2 ≤ 1000000000000
def caseV (r : Int × List (Int × Int) × List (List Int × Int)) : PV := .tup [hp r.1 r.2.1, .xt (r.2.2.map flX)]
def ks7 : List (Int × Int) := (List.range 7).map fun (i : Nat) => (1 + (i : Int) * 2, 1000000)
theorem cases_0759 {a b c : Int} (ha : 0 ≤ a) (hb : 0 ≤ b) (hb2 : b ≤ 10000000000) :
    ∃ (l : List (Int × List (Int × Int) × List (List Int × Int))) (a' b' : Int), l.length ≤ 3 ∧ (∀ r ∈ l, CaseOk r.1 r.2.1 r.2.2) ∧ 0 ≤ a' ∧ b ≤ b' ∧ b' ≤ b + 50000 ∧ g_law_cases_0759 [pt a b c] = .ok (.own (.lst (l.map caseV))) [pt a' b' c] := by
  obtain ⟨n, ks, a1, b1, p1, p2, p3, p4, p5, p6, p7, p8, f1⟩ := small_5a72 (a := a) (b := b) (c := c) (m := 6) ha hb (by omega) (by omega) (by omega)
  obtain ⟨n2, ks2, a2, b2, r1, r2, r3, r4, r5, r6, r7, r8, f2⟩ := heap_f563 (a := a1) (b := b1) (c := c) (m := 8) p6 (by omega) (by omega) (by omega) (by omega)
  obtain ⟨d1, a3, b3, d2, d3, d4, d5, d6, f3⟩ := take_481c (c := c) (m := 4) r6 (show 0 ≤ b2 by omega) (by omega) (by omega) (by omega)
  obtain ⟨fl, a4, b4, F, srt, k1, k2, k3, k4, k5, f4⟩ := fillm_3337 (c0 := c) (n := n) (m := 1 + d1) d4 (show 0 ≤ b3 by omega) (by omega) p1 p3 (by omega) p4 (by omega) (by omega)
  obtain ⟨e1, a5, b5, e2, e3, e4, e5, e6, f5⟩ := take_481c (c := c) (m := 4) k3 (show 0 ≤ b4 by omega) (by omega) (by omega) (by omega)
  obtain ⟨fl2, a6, b6, F2, srt2, v1, v2, v3, v4, v5, f6⟩ := fillm_3337 (c0 := c) (n := n2) (m := 1 + e1) e4 (show 0 ≤ b5 by omega) (by omega) r1 r3 (by omega) r4 (by omega) (by omega)
  obtain ⟨g1, a7, b7, g2, g3, g4, g5, g6, f7⟩ := take_481c (c := c) (m := 6) v3 (show 0 ≤ b6 by omega) (by omega) (by omega) (by omega)
  have O1 : CaseOk n ks fl := ⟨p1, p2, p3, by omega, fun q hq => by have := p4 q hq; omega, F, srt, by omega, k2⟩
  have O2 : CaseOk n2 ks2 fl2 := ⟨r1, r2, r3, by omega, fun q hq => by have := r4 q hq; omega, F2, srt2, by omega, v2⟩
  have R : ∀ (l : List PV) (h : Option LV), forL (bindS (exSs ph_law_cases_0759 1000000 bd_law_cases_0759_1) (.one 2)) [hp n ks, hp n2 ks2] [some (.own (.lst [.int a2, .int b2, .int c])), some (.own (.lst [])), none, none, none] = .nx [some (.own (.lst [.int a6, .int b6, .int c])), some (.own (.lst [caseV (n, ks, fl), caseV (n2, ks2, fl2)])), some (.fro (hp n2 ks2)), none, none] := fun _ _ => by
    simp [forL, ioOk, Br.frameOf, lvsOf, Br.exSs_nil, Br.exSs_cons, SO.seq_nx, SO.seq_rt, SO.seq_ex, SO.seq_bk, SO.seq_ct, SO.seq_st, SO.fin_nx, SO.fin_rt, SO.fin_ex, Br.v_app, Br.v_mth, Br.v_tup, Br.v_lst, Br.v_cst, Br.v_dnew, Br.v_var, Br.v_call, Br.v_and, Br.v_or, Br.v_not, Br.v_ite, Br.v_chain, Br.v_chain3, Br.kCh33, Br.kCh32b, Br.kCh32, Br.kCh31, Br.v_sl2, Br.v_comp, Br.v_compK, Br.v_compO, Br.kCO_l, Br.putO_ok, Br.kCK_d, Br.kCK_t, Br.lockE_ok, Br.v_aref, Br.v_aval, Br.v_as0, Br.v_as, Br.v_es0, Br.v_es, Br.v_tand, Br.v_tor, Br.v_tnot, Br.v_te, Br.v_ts0, Br.v_ts1, Br.v_seq, Br.v_seqS, Br.kSeqS, Br.v_rng1, Br.v_rng2, Br.v_enum, Br.v_zip, Br.v_popE, Br.v_dispV, Br.l_dispV', Br.v_popD, Br.l_popD, Br.kPopD_eq, Br.v_disp1, Br.l_disp1', Br.kD1_eq, Br.kD2_i, Br.calm_ok, Br.v_popL, Br.l_popE, Br.l_popL, Br.kPopE_eq, Br.putE_some, Br.putE_none, Br.v_rev, Br.l_app, Br.l_mth', Br.l_lst', Br.l_dnew', Br.l_call', Br.l_comp', Br.l_compK', Br.l_compO', Br.l_mvv', Br.kMv_o, Br.kMv_f, Br.l_var, Br.l_cst, Br.l_tup, Br.l_and, Br.l_or, Br.l_not, Br.l_ite, Br.l_chain, Br.l_chain3, Br.l_sl2, Br.x_set, Br.x_unp, Br.x_par, Br.x_setIx, Br.x_app, Br.x_ext, Br.x_popA, Br.x_insA, Br.kPopA, Br.kIns1, Br.kIns2, Br.x_ex, Br.x_ret, Br.x_retV, Br.x_retN, Br.x_if, Br.x_whl, Br.x_brk, Br.x_cont, Br.x_pass, Br.x_raise, Br.kOp, Br.kVal, Br.kCons, Br.kAs, Br.kConsE, Br.kEs, Br.kTup, Br.kLst, Br.kCall, Br.kMth2, Br.kMth, Br.kAnd, Br.kOr, Br.kNot, Br.kIte, Br.kCh4, Br.kCh3, Br.kCh2b, Br.kCh2, Br.kCh1, Br.kS3, Br.kS2, Br.kS1, Br.kC6, Br.kC5, Br.kC4, Br.kC3, Br.kC0, Br.kC2, Br.kC1, Br.kTand, Br.kTor, Br.kTnot, Br.kTe, Br.kSeq, Br.kR1, Br.kR3, Br.kR2, Br.kEn, Br.kZ2, Br.kZ1, Br.kRv, Br.kOwn, Br.kFro, Br.kOwnV, Br.kCallL, Br.kSet, Br.kUnp, Br.kPar, Br.kSI2, Br.kSI1, Br.kApp, Br.kExt, Br.kEx, Br.kRet, Br.kIf, Br.kFor, Br.ifE_t, Br.ifE_f, Br.ifS_t, Br.ifS_f, Br.okE_eq, Br.cF, Br.x_for, ne_eq, reduceCtorEq, not_false_eq_true, implies_true, ER.bind_ok, ER.bind_ex, ER.bind_st, ER.so_ok, ER.so_ex, ER.so_st, ER.of_some, ER.of_none, SO.of_some, SO.of_none, Br.bindS_k, Br.bindK_some, Br.bindK_none, Tg.bind, Tg.binds, slotInt, at', setIxP, AV.pvs, AV.pv, AV.lvs, AV.lv, AV.refs, AV.back, maskL, LV.isFro, LV.pv, Br.callE_k, Br.callK0_some, Br.callK_ok, Br.callK_ex, froE, Br.opX_add, Br.opX_sub, Br.opX_mul, Br.opX_fdiv, Br.opX_mod, Br.opX_pow, Br.opX_neg, Br.opX_eq, Br.opX_ne, Br.opX_lt, Br.opX_le, Br.opX_gt, Br.opX_ge, Br.opX_isN, Br.opX_isNN, Br.opX_inn, Br.opX_nin, Br.opX_len, Br.opX_sum, Br.opX_abs, Br.opX_int1, Br.opX_str1, Br.opX_tuple1, Br.opX_list1, Br.opX_sorted, Br.opX_allL, Br.opX_anyL, Br.opX_min2, Br.opX_max2, Br.opX_minL, Br.opX_maxL, Br.opX_idx, Br.opX_rev, Br.opX_dget, Br.opX_values, Br.opX_dmod, Br.opX_lcnt, Br.opX_tcnt, Br.opX_lidx, Br.opX_bits, Br.opX_sortedD, Br.opX_minD, Br.opX_maxD, Br.opX_isB, Br.opX_isNB, Br.opX_isTy, Br.opX_slc, Br.opX_lsetX, Br.opX_slcX, slcXP, Br.opX_isEx, Br.opX_dict1, Br.opX_dictT, Br.opX_tupleX, Br.dn_non, Br.dn_bl, Br.dn_int, Br.dn_str, Br.dn_ty, Br.dn_exc, Br.dn_tup, Br.dn_xt, Br.dn_lst, Br.dn_dK, Br.dn_dT, Br.dn_dX, Br.dn_dn, Br.isD_dn, Br.eqP_dnl, Br.eqP_dnr, tupleXP, opSem, addP, subP, mulP, fdivP, modP, powP, negP, eqOP, neOP, ltOP, leOP, gtOP, geOP, isNP, isNNP, isBP, isNBP, PV.isNon, lenP, sumP, absP, int1P, str1P, tuple1P, list1P, min2P, max2P, idxP, slcP, slcPart, dmodP, isTyOP, isTys, isTyP, tyName, ownV, Op.new, wipeE, Br.backE_nil, Br.backE_cons, Br.froO_f, Br.froO_n, Br.froO_0, Br.froO_o, seqOf, parE, ownL, ownD, keyP, recvOk, PV.isD, PV.isT, Br.eqP_ii, Br.eqP_ss, Br.eqP_bb, Br.eqP_nn, Br.eqP_tt, Br.eqP_ll, Br.eqPs_00, Br.eqPs_0c, Br.eqPs_c0, Br.eqPs_cc, Br.eqPs_ints, Br.eqP_xl, Br.eqP_xr, Br.eqP_ni, Br.eqP_ns, Br.eqP_nt, Br.eqP_nl, Br.eqP_nb, Br.eqP_in, Br.eqP_is, Br.eqP_it, Br.eqP_il, Br.eqP_sn, Br.eqP_si, Br.eqP_st, Br.eqP_sl, Br.eqP_sb, Br.eqP_tn, Br.eqP_ti, Br.eqP_ts, Br.eqP_tl, Br.eqP_tb, Br.eqP_ln, Br.eqP_li, Br.eqP_ls, Br.eqP_lt, Br.eqP_lb, Br.eqP_bn, Br.eqP_bs, Br.eqP_bt, Br.eqP_bl, intsOf, List.getElem?_cons_zero, List.getElem?_cons_succ, List.getElem?_nil, List.set_cons_zero, List.set_cons_succ, List.map_cons, List.map_nil, List.cons_append, List.nil_append, List.length_cons, List.length_nil, List.replicate_succ, List.replicate_zero, List.append_nil, Option.bind_some, Option.bind_none, Option.map_some, Option.map_none, if_true, if_false, ite_true, ite_false, decide_true, decide_false, Bool.and_true, Bool.true_and, Bool.not_true, Bool.not_false, reduceIte, Option.isSome_some, Br.kit_NoneType_int, Br.kit_NoneType_bool, Br.kit_NoneType_str, Br.kit_NoneType_tuple, Br.kit_NoneType_list, Br.kit_NoneType_dict, Br.kit_bool_int, Br.kit_bool_bool, Br.kit_bool_str, Br.kit_bool_tuple, Br.kit_bool_list, Br.kit_bool_dict, Br.kit_int_int, Br.kit_int_bool, Br.kit_int_str, Br.kit_int_tuple, Br.kit_int_list, Br.kit_int_dict, Br.kit_str_int, Br.kit_str_bool, Br.kit_str_str, Br.kit_str_tuple, Br.kit_str_list, Br.kit_str_dict, Br.kit_tuple_int, Br.kit_tuple_bool, Br.kit_tuple_str, Br.kit_tuple_tuple, Br.kit_tuple_list, Br.kit_tuple_dict, Br.kit_list_int, Br.kit_list_bool, Br.kit_list_str, Br.kit_list_tuple, Br.kit_list_list, Br.kit_list_dict, Br.kit_dict_int, Br.kit_dict_bool, Br.kit_dict_str, Br.kit_dict_tuple, Br.kit_dict_list, Br.kit_dict_dict, L2.ixN, Br.rng_ok, Br.mul_ok_r, Br.mul_ok_l, LIM, Br.PV.i_int, Br.log2_lt_9000, Br.atI_0, Br.atI_1, Br.atI_2, lcntP, lidxP, bitsP, revP, cntP, sortedDP, minDP, maxDP, sortX, Br.x_try, Br.tryK_nx, Br.tryK_rt, Br.tryK_bk, Br.tryK_ct, Br.suiteX_nx, Br.suiteX_bk, Br.suiteX_ct, Br.suiteX_rt, Br.setX_some, Br.setX_none, Br.goneX_some, Br.goneX_none, Br.x_lock, Br.kLock_d, Br.lockR_nx, Br.lockR_rt, Br.l_callN', Br.v_callN, Br.kN1, Br.kN2_eq, Br.newL_t, Br.newL_f, Br.l_callT', Br.v_callT, Br.kT1, Br.kT2, Br.kT3, Br.kT4_eq, Br.dropT_ok, Br.dropT_ex, Br.dropT_st, Br.sh_val, Br.sh_ref, Br.kXt, Br.v_xtup, Br.l_xtup, Br.lockV_s, Br.thin_0, Br.thin_c, Br.thinO_n, Br.thinO_s, Br.thinL_f, Br.thinL_l, Br.thinL_d, Br.thinL_t, Br.noD_n, Br.noD_b, Br.noD_i, Br.noD_s, Br.noD_e, Br.noD_t, Br.noD_x, Br.noD_l, Br.noD_d, Br.noDs_0, Br.noDs_c, Br.noDs_i, Br.v_dnewT, Br.v_dnewX, Br.l_dnewT', Br.l_dnewX', Br.opX_idxT, Br.opX_dgetT, Br.opX_innT, Br.opX_ninT, Br.opX_sortT, idxTP, dgetTP, innTP, ninTP, sortTP, Br.opX_strD, Br.opX_max2D, Br.opX_valsL, Br.opX_valsS, Br.opX_minV, Br.opX_minT, Br.opX_sset, Br.opX_ssetT, Br.opX_lset, Br.opX_join, Br.opX_split, Br.opX_strip2, Br.opX_intS, Br.opX_idxS, Br.opX_inS, Br.opX_addX, addXP, minVP, minTP, valsLP, valsSP, tcntP, tupleXP, Br.l_mcall', Br.v_mcall, Br.kMc, Br.l_make', Br.kMk, Br.madeT_ok, Br.madeT_st, Br.v_fld, Br.fldE_some, Br.l_fld, Br.v_fop, Br.fldO_fro, Br.fldO_own, Br.l_fop', Br.x_fset, Br.x_fnew, Br.x_fappV, Br.x_fappT, fsetS, fnewS, fappS, Br.froAt, insLs, insAt, Br.l_sel', Br.v_sel, Br.kSel_0, Br.kSel_1, Br.v_frz, Br.l_frz', Br.v_ofld, Br.l_ofld, Br.v_fix, Br.l_fix, Br.fixP_s, Br.ixOf_l, Br.ixOf_r, Br.ofldP_s, Br.l_mcallR', Br.v_mcallR, Br.kMr, Br.callR_k, Br.callR1_s, Br.callR2_ok, Br.pvsL_0, Br.pvsL_f, Br.pvsL_o, Br.bare_f, Br.bare_l, Br.bare_i, PV.bare, Br.x_fsetIx, fsetIxS, Br.x_fappE, Br.kFa0_s, Br.kFa_l, fappES, Br.dn_gt, Br.dn_obj, and_self, Br.opX_max3, Br.opX_min3, max3P, min3P, bd_law_cases_0759_1, ph_law_cases_0759, f3, f4, f5, f6, caseV]
  have R := R [] none
  by_cases h5 : g1 = 5
  · obtain ⟨z, a8, b8, z2, z3, z4, z5, z6, f8⟩ := take_481c (c := c) (m := 21) g4 (show 0 ≤ b7 by omega) (by omega) (by omega) (by omega)
    have K7 : Kinds ks7 := by unfold Kinds; exact ⟨by decide, by decide⟩
    have B7 : ∀ q ∈ ks7, 1 ≤ q.1 ∧ q.1 ≤ 1000000000000 ∧ 1 ≤ q.2 ∧ q.2 ≤ 1000000000000 := by decide
    obtain ⟨fl3, a9, b9, F3, srt3, w1, w2, w3, w4, w5, f9⟩ := fillm_3337 (c0 := c) (n := 10 + z) (ks := ks7) (m := 99) z4 (show 0 ≤ b8 by omega) (by omega) (by omega) K7 (by decide) B7 (by omega) (by omega)
    have O3 : CaseOk (10 + z) ks7 fl3 := ⟨by omega, by omega, K7, by decide, fun q hq => by have := B7 q hq; omega, F3, srt3, by omega, w2⟩
    refine ⟨[(n, ks, fl), (n2, ks2, fl2), (10 + z, ks7, fl3)], a9, b9, by simp, fun r hr => ?_, w3, by omega, by omega, ?_⟩
    · simp at hr
      rcases hr with rfl | rfl | rfl
      · exact O1
      · exact O2
      · exact O3
    · (unfold g_law_cases_0759 ir_law_cases_0759; rw [runFn_eq _ _ _ _ ⟨rfl, by decide, rfl⟩])
      simp -implicitDefEqProofs [evx, ph_law_cases_0759, f1, f2, R, f7, h5, f8]
      rw [show (rngP 0 7).length = 7 from rfl, if_pos (by decide), show rngP 0 7 = ((List.range 7).map fun (i : Nat) => (i : Int)).map PV.int from rfl]
      rw [comp_mp (emb' := fun q : Int × Int => PV.tup [.int q.1, .int q.2]) (h := fun i : Int => (1 + i * 2, (1000000 : Int))) fun i hi => by
        obtain ⟨j, hj, rfl⟩ := List.mem_map.mp hi
        have := List.mem_range.mp hj
        have w : mulOk (j : Int) 2 := .inr (.inl (by decide))
        simp -implicitDefEqProofs [evx, el_law_cases_0759_1, w, -mulOk]]
      have h7 : (((List.range 7).map fun (i : Nat) => (i : Int)).map fun i : Int => (1 + i * 2, (1000000 : Int))) = ks7 := rfl
      rw [h7]
      have f9 : g_law_filling_3337 [pt a8 b8 c, .fro (.tup [.int (10 + z), .xt (ks7.map fun q => .tup [.int q.1, .int q.2])]), .fro (.int 99)] = _ := f9
      generalize ks7 = K at *
      simp -implicitDefEqProofs [evx, ph_law_cases_0759, f9, caseV, hp]
  · refine ⟨[(n, ks, fl), (n2, ks2, fl2)], a7, b7, by simp, fun r hr => ?_, g4, by omega, by omega, ?_⟩
    · simp at hr
      rcases hr with rfl | rfl
      · exact O1
      · exact O2
    · (unfold g_law_cases_0759 ir_law_cases_0759; rw [runFn_eq _ _ _ _ ⟨rfl, by decide, rfl⟩])
      simp -implicitDefEqProofs [evx, ph_law_cases_0759, f1, f2, R, f7, h5]
set_option maxHeartbeats 0
-- use: BrV1 HandS.FStrTup U_pool U_cts
/-! str(data): that there is room for the text -/
mutual
/-- at most so many signs -/
def wP : PV → Nat
  | .non => 4
  | .bl _ => 5
  | .int _ => 103
  | .str x => 10 * x.length + 2
  | .tup l => wPs l + 3
  | .xt l => wPs l + 3
  | .lst l => wPs l + 3
  | _ => 0
def wPs : List PV → Nat
  | [] => 0
  | p :: l => wP p + 2 + wPs l
end
mutual
/-- data whose numbers and texts are plain -/
def okW : Nat → PV → Bool
  | _, .non => true
  | _, .bl _ => true
  | _, .int i => decide (i.natAbs < 2 ^ 256)
  | _, .str x => PyData.strOk x && x.cps.toList.all fun c => decide (c < 16 ^ 8)
  | n + 1, .tup l => okWs n l
  | n + 1, .xt l => okWs n l
  | n + 1, .lst l => okWs n l
  | _, _ => false
def okWs : Nat → List PV → Bool
  | _, [] => true
  | n, p :: l => okW n p && okWs n l
end
theorem strlen_100 (i : Int) (h : i.natAbs < 2 ^ 256) : (toString i : PySem.Str).length ≤ 103 := by
  have gen : ∀ m : Nat, m < 2 ^ 256 → (Nat.toDigits 10 m).length ≤ 100 := fun m hm => PySem.toDigits_len_pow (by omega) (by omega) (Nat.lt_of_lt_of_le hm (by decide))
  have nn : ∀ m : Nat, m < 2 ^ 256 → (Str.ofString (toString (m : Int))).length ≤ 100 := fun m hm => by
    have h1 := congrArg List.length (PySem.W.KIN.signs_num m)
    rw [List.length_map] at h1
    have h2 := gen m hm
    have h3 : (Str.ofString (toString (m : Int))).length = (Str.ofString (toString (m : Int))).cps.toList.length := by
      unfold Str.length
      simp
    omega
  cases i with
  | ofNat m =>
    have := nn m (by simpa using h)
    exact Nat.le_trans this (by omega)
  | negSucc m =>
    have h1 := nn (m + 1) (by simpa using h)
    have e : toString (Int.negSucc m) = "-" ++ toString ((m + 1 : Nat) : Int) := rfl
    have e2 : (toString (Int.negSucc m) : PySem.Str) = Str.ofString ("-" ++ toString ((m + 1 : Nat) : Int)) := by rw [← e]
    rw [e2]
    have e3 : ∀ a b : String, (Str.ofString (a ++ b)).length = (Str.ofString a).length + (Str.ofString b).length := fun a b => by
      rw [Str.ofString_eq_toList, Str.ofString_eq_toList, Str.ofString_eq_toList]
      unfold Str.length
      simp
    rw [e3]
    have : (Str.ofString "-").length = 1 := rfl
    omega
theorem tupleText_le (ts : List PySem.Str) : (tupleText ts).length ≤ piled ts + 3 := Nat.le_trans (fmt_text ts) (by omega)
theorem textFrom_le : ∀ (ts : List PySem.Str) (k : Nat) (acc : PySem.Str), (textFrom k acc ts).length ≤ acc.length + piled ts
  | [], k, acc => by simp [textFrom, piled]
  | t :: r, k, acc => by
    have ih := textFrom_le r (k + 1) (acc ++ (if k > 0 then ", " else "" : String) ++ t)
    rw [strLen_append, strLen_append] at ih
    have e : (textFrom k acc (t :: r)) = textFrom (k + 1) (acc ++ (if k > 0 then ", " else "" : String) ++ t) r := rfl
    have e2 : (((if k > 0 then ", " else "" : String) : PySem.Str)).length ≤ 2 := by split <;> decide +kernel
    rw [e, piled_cons]
    omega
theorem listText_le (ts : List PySem.Str) : (listText ts).length ≤ piled ts + 3 := by
  unfold listText
  rw [strLen_append]
  have := textFrom_le ts 0 "["
  have e1 : ((("[" : String) : PySem.Str)).length = 1 := rfl
  have e2 : ((("]" : String) : PySem.Str)).length = 1 := rfl
  omega
mutual
theorem wP_ok : ∀ (n : Nat) (p : PV), okW n p = true → p.toD.shown.length ≤ wP p ∧ p.toD.showable = true ∧ p.isD n = true
  | _, .non, _ => by
    refine ⟨?_, by simp [PV.toD, PyData.showable], by simp [PV.isD]⟩
    simp only [PV.toD, PyData.shown, wP]
    decide +kernel
  | _, .bl b, _ => by
    refine ⟨?_, by simp [PV.toD, PyData.showable], by simp [PV.isD]⟩
    simp only [PV.toD, PyData.shown, wP]
    cases b <;> decide +kernel
  | n, .int i, h => by
    have hi : i.natAbs < 2 ^ 256 := by cases n <;> (unfold okW at h; exact of_decide_eq_true h)
    refine ⟨?_, ?_, by cases n <;> simp [PV.isD]⟩
    · simp only [PV.toD, PyData.shown, wP]
      exact strlen_100 i hi
    · simp only [PV.toD, PyData.showable]
      refine decide_eq_true ?_
      by_cases z : i.natAbs = 0
      · rw [z]; decide
      · have := (Nat.log2_lt z).mpr hi
        omega
  | n, .str x, h => by
    have hx : PyData.strOk x = true ∧ ∀ c ∈ x.cps.toList, c < 16 ^ 8 := by
      cases n <;> (unfold okW at h; rw [Bool.and_eq_true, List.all_eq_true] at h; exact ⟨h.1, fun c hc => of_decide_eq_true (h.2 c hc)⟩)
    refine ⟨?_, by simp [PV.toD, PyData.showable], by cases n <;> (unfold PV.isD; exact hx.1)⟩
    simp only [PV.toD, PyData.shown, wP]
    exact StrLaws.reprText_len x hx.2
  | n + 1, .tup l, h => by
    unfold okW at h
    obtain ⟨h1, h2, h3⟩ := wPs_ok n l h
    refine ⟨?_, by simpa [PV.toD, PyData.showable] using h2, by unfold PV.isD; exact h3⟩
    simp only [PV.toD, PyData.shown, wP]
    have := tupleText_le (PyData.shownAll (PV.toDs l))
    omega
  | n + 1, .xt l, h => by
    unfold okW at h
    obtain ⟨h1, h2, h3⟩ := wPs_ok n l h
    refine ⟨?_, by simpa [PV.toD, PyData.showable] using h2, by unfold PV.isD; exact h3⟩
    simp only [PV.toD, PyData.shown, wP]
    have := tupleText_le (PyData.shownAll (PV.toDs l))
    omega
  | n + 1, .lst l, h => by
    unfold okW at h
    obtain ⟨h1, h2, h3⟩ := wPs_ok n l h
    refine ⟨?_, by simpa [PV.toD, PyData.showable] using h2, by unfold PV.isD; exact h3⟩
    simp only [PV.toD, PyData.shown, wP]
    have := listText_le (PyData.shownAll (PV.toDs l))
    omega
  | 0, .tup l, h => by simp [okW] at h
  | 0, .xt l, h => by simp [okW] at h
  | 0, .lst l, h => by simp [okW] at h
  | n, .ty _, h => by cases n <;> simp [okW] at h
  | n, .exc _, h => by cases n <;> simp [okW] at h
  | n, .dK _ _, h => by cases n <;> simp [okW] at h
  | n, .dT _ _, h => by cases n <;> simp [okW] at h
  | n, .dX _ _, h => by cases n <;> simp [okW] at h
theorem wPs_ok : ∀ (n : Nat) (l : List PV), okWs n l = true → piled (PyData.shownAll (PV.toDs l)) ≤ wPs l ∧ PyData.showableAll (PV.toDs l) = true ∧ l.all (PV.isD n) = true
  | _, [], _ => by simp [PV.toDs, PyData.shownAll, PyData.showableAll, piled, wPs]
  | n, p :: l, h => by
    unfold okWs at h
    rw [Bool.and_eq_true] at h
    obtain ⟨a1, a2, a3⟩ := wP_ok n p h.1
    obtain ⟨b1, b2, b3⟩ := wPs_ok n l h.2
    refine ⟨?_, ?_, ?_⟩
    · simp only [PV.toDs, PyData.shownAll, wPs]
      rw [piled_cons]
      omega
    · simp only [PV.toDs, PyData.showableAll, a2, b2, Bool.and_self]
    · rw [List.all_cons, a3, b3, Bool.and_self]
end
theorem okWs_all {n : Nat} : ∀ {l : List PV}, (∀ p ∈ l, okW n p = true) → okWs n l = true
  | [], _ => rfl
  | p :: l, h => by
    unfold okWs
    rw [h p (by simp), okWs_all fun q hq => h q (by simp [hq])]
    rfl
set_option maxHeartbeats 0
-- use: U_str U_xd U_lfp
/-! str(data) of longer fillings -/
theorem strlen_20 (i : Int) (h : i.natAbs ≤ 10000000000000) : (toString i : PySem.Str).length ≤ 20 := by
  have gen : ∀ m : Nat, m ≤ 10000000000000 → (Nat.toDigits 10 m).length ≤ 14 := fun m hm => PySem.toDigits_len_pow (by omega) (by omega) (Nat.lt_of_le_of_lt hm (by decide))
  have nn : ∀ m : Nat, m ≤ 10000000000000 → (Str.ofString (toString (m : Int))).length ≤ 14 := fun m hm => by
    have h1 := congrArg List.length (PySem.W.KIN.signs_num m)
    rw [List.length_map] at h1
    have h2 := gen m hm
    have h3 : (Str.ofString (toString (m : Int))).length = (Str.ofString (toString (m : Int))).cps.toList.length := by
      unfold Str.length
      simp
    omega
  cases i with
  | ofNat m =>
    have := nn m (by simpa using h)
    exact Nat.le_trans this (by omega)
  | negSucc m =>
    have h1 := nn (m + 1) (by simpa using h)
    have e : toString (Int.negSucc m) = "-" ++ toString ((m + 1 : Nat) : Int) := rfl
    have e2 : (toString (Int.negSucc m) : PySem.Str) = Str.ofString ("-" ++ toString ((m + 1 : Nat) : Int)) := by rw [← e]
    rw [e2]
    have e3 : ∀ a b : String, (Str.ofString (a ++ b)).length = (Str.ofString a).length + (Str.ofString b).length := fun a b => by
      rw [Str.ofString_eq_toList, Str.ofString_eq_toList, Str.ofString_eq_toList]
      unfold Str.length
      simp
    rw [e3]
    have : (Str.ofString "-").length = 1 := rfl
    omega
theorem piled_le {b : Nat} : ∀ {l : List PV}, (∀ p ∈ l, p.toD.shown.length ≤ b) → piled (PyData.shownAll (PV.toDs l)) ≤ (b + 2) * l.length
  | [], _ => by simp [PV.toDs, PyData.shownAll, piled]
  | p :: l, h => by
    have h1 := h p (by simp)
    have h2 := piled_le fun q hq => h q (List.mem_cons_of_mem p hq)
    simp only [PV.toDs, PyData.shownAll]
    rw [piled_cons, List.length_cons, Nat.mul_add, Nat.mul_one]
    omega
theorem shown_flX {q : List Int × Int} (h1 : q.1.length ≤ 101) (h2 : ∀ x ∈ q.1, x.natAbs ≤ 10000000000000) (h3 : q.2.natAbs ≤ 10000000000000) : (flX q).toD.shown.length ≤ 2300 := by
  have e1 : (xI q.1).toD.shown.length ≤ 2225 := by
    have := piled_le (b := 20) (l := q.1.map PV.int) fun p hp => by
      obtain ⟨i, hi, rfl⟩ := List.mem_map.mp hp
      simp only [PV.toD, PyData.shown]
      exact strlen_20 i (h2 i hi)
    rw [List.length_map] at this
    have t := tupleText_le (PyData.shownAll (PV.toDs (q.1.map PV.int)))
    simp only [PV.toD, PyData.shown]
    omega
  have e2 : (PV.int q.2).toD.shown.length ≤ 20 := by
    simp only [PV.toD, PyData.shown]
    exact strlen_20 _ h3
  have := piled_le (b := 2225) (l := [xI q.1, .int q.2]) fun p hp => by
    simp at hp
    rcases hp with rfl | rfl
    · exact e1
    · exact Nat.le_trans e2 (by omega)
  have t := tupleText_le (PyData.shownAll (PV.toDs [xI q.1, .int q.2]))
  unfold flX
  rw [PV.toD, PyData.shown]
  rw [List.length_cons, List.length_cons, List.length_nil] at this
  have p1 : piled (PyData.shownAll (PV.toDs [xI q.1, .int q.2])) = (xI q.1).toD.shown.length + 2 + ((PV.int q.2).toD.shown.length + 2) := by
    simp only [PV.toDs, PyData.shownAll]
    rw [piled_cons, piled_cons]
    simp [piled]
  omega
theorem strX_ok {fl : List (List Int × Int)} {p : PV} (hp : p = .tup (fl.map flX) ∨ p = .lst (fl.map flX)) (hl : fl.length ≤ 101) (h : ∀ q ∈ fl, q.1.length ≤ 101 ∧ (∀ x ∈ q.1, x.natAbs ≤ 10000000000000) ∧ q.2.natAbs ≤ 10000000000000) : ∃ s, strDP [p] = some (.str s) := by
  have pl := piled_le (b := 2300) (l := fl.map flX) fun p hp => by
    obtain ⟨q, hq, rfl⟩ := List.mem_map.mp hp
    obtain ⟨h1, h2, h3⟩ := h q hq
    exact shown_flX h1 h2 h3
  rw [List.length_map] at pl
  have o1 : okWs 59 (fl.map flX) = true := okWs_all fun p hp => by
    obtain ⟨q, hq, rfl⟩ := List.mem_map.mp hp
    obtain ⟨h1, h2, h3⟩ := h q hq
    have o : okWs 57 (q.1.map PV.int) = true := okWs_all fun p hp => by
      obtain ⟨i, hi, rfl⟩ := List.mem_map.mp hp
      unfold okW
      have := h2 i hi
      exact decide_eq_true (by omega)
    unfold flX okW okWs okWs okWs
    rw [show okW 58 (xI q.1) = true by unfold okW; exact o, show okW 58 (.int q.2) = true by unfold okW; exact decide_eq_true (by omega)]
    rfl
  have ok : okW 60 p = true := by rcases hp with rfl | rfl <;> (unfold okW; exact o1)
  obtain ⟨_, a2, a3⟩ := wP_ok 60 p ok
  have sq : p.isSeq = true := by rcases hp with rfl | rfl <;> rfl
  have sh : p.toD.shown.length ≤ 1000000 := by
    have t1 := tupleText_le (PyData.shownAll (PV.toDs (fl.map flX)))
    have t2 := listText_le (PyData.shownAll (PV.toDs (fl.map flX)))
    rcases hp with rfl | rfl <;> (rw [PV.toD, PyData.shown]; omega)
  have e : str1P [p] = none := by cases p <;> first | rfl | cases sq
  refine ⟨p.toD.shown, ?_⟩
  unfold strDP
  rw [e]
  dsimp only
  rw [if_pos ⟨sq, a3, a2, by unfold LIM; omega⟩]
set_option maxHeartbeats 0
-- use: U_cts U_dict U_heap
/-- a comprehension whose body draws: with the number of turns -/
theorem compL_runN {f : PV → Br.Env → ER (Option PV)} (I : Nat → List PV → Br.Env → Prop) : ∀ {xs : List PV} {ρ : Br.Env} (k : Nat) (done : List PV), I k done ρ → (∀ (i : Nat) x done ρ, xs[i]? = some x → I (k + i) done ρ → ∃ ρ' r, f x ρ = .ok r ρ' ∧ I (k + i + 1) (done ++ r.toList) ρ') → ∃ ρ' ys, compL f xs ρ = .ok ys ρ' ∧ I (k + xs.length) (done ++ ys) ρ'
  | [], ρ, k, done, i, _ => ⟨ρ, [], rfl, by simpa using i⟩
  | x :: xs, ρ, k, done, i, H => by
    obtain ⟨ρ1, r, h1, i1⟩ := H 0 x done ρ rfl i
    obtain ⟨ρ2, ys, h2, i2⟩ := compL_runN I (xs := xs) (k + 1) _ i1 fun i y d ρ hy hi => by
      have := H (i + 1) y d ρ (by simpa using hy) (by rw [show k + (i + 1) = k + 1 + i by omega]; exact hi)
      rw [show k + (i + 1) + 1 = k + 1 + i + 1 by omega] at this
      exact this
    refine ⟨ρ2, r.toList ++ ys, ?_, ?_⟩
    · unfold compL
      rw [h1]
      cases r with
      | none => simpa using h2
      | some y => simp [h2]
    · rw [List.length_cons, show k + (xs.length + 1) = k + 1 + xs.length by omega, ← List.append_assoc]
      exact i2
set_option maxHeartbeats 0
def el_law_7f4e_1 : Br.Ex := .call 345 [.ref 2, .ref 3, .ref 4]
def bd_law_7f4e_1 : List Br.St := [.set 7 (.call 81 [.ref 3, .ref 6]), .set 8 (.app .strD [.ref 6]), .set 9 (.call 428 [.ref 3, .ref 6]), .ite (.or (.not (.e (.app (.isTy ["bool"]) [.ref 9]))) (.or (.e (.app .ne [.ref 9, .ref 7])) (.e (.app .ne [.val (.app .strD [.ref 6]), .ref 8])))) [.ret (.cst (.bl false))] []]
def bd_law_7f4e_2 : List Br.St := [.set 5 (.app .add [.val (.lst [.var 4, .tup []]), .val (.comp (.rng1 (.cst (.int 5))) (.one 10) [10] [] el_law_7f4e_1)]), .for (.seq (.var 5)) (.one 6) bd_law_7f4e_1, .ite (.e (.app (.isNB true) [.val (.call 428 [.ref 3, .ref 4])])) [.ret (.cst (.bl false))] []]
def bd_law_7f4e_3 : List Br.St := [.set 2 (.call 19 [.ref 1]), .for (.seq (.call 42 [.ref 2])) (.tup [.one 3, .one 4]) bd_law_7f4e_2]
def ir_law_7f4e : Fn := ⟨11, 1, [0], [.for (.seq (.call 115 [.ref 0, .val (.cst (.int 4))])) (.one 1) bd_law_7f4e_3, .ret (.cst (.bl true))]⟩
def ph_law_7f4e : Nat → List LV → CR := fun j => match j with | 19 => g_law_begun_984b | 42 => g_law_cases_0759 | 81 => g_law_due_4e0e | 115 => g_law_folded_928f | 345 => g_law_spoilt_26e7 | 428 => g_filling_holds_0f56 | _ => fun _ => .st
def g_law_7f4e : List LV → CR := runFn ph_law_7f4e 1000000 ir_law_7f4e
-- use: U_pot U_cts U_pool U_list U_comp U_xd U_addt U_jdg U_lfp U_strl U_run
theorem judge_fil {n : Int} {ks : List (Int × Int)} {fl : List (List Int × Int)} (F : FilP n ks fl) (hs : (keysTL fl).Pairwise (fun a b => ltI a b = true)) : judgeJ n ks fl = true := by
  unfold judgeJ
  simp only [Bool.and_eq_true, List.all_eq_true]
  refine ⟨⟨fun q hq => goodJ_iff.mpr (F.2.1 q hq), riseJ_iff.mpr (rise_keys hs)⟩, ?_⟩
  unfold fitsJ
  rw [List.all_eq_true]
  exact fun k _ => decide_eq_true (F.2.2 k)
def OneOk (p : PV) : Prop := ∃ fl, FlX fl p ∧ fl.length ≤ 101 ∧ SpJ fl
theorem one_7f4e {n a b c cell : Int} {ks : List (Int × Int)} {F p : PV} {ns : List Int} {S : List PV} (hk : Kinds ks) (hl : ks.length < 64) (h : OneOk p) (l_one l_due l_kept l_found : Option LV) :
    ∃ m_due m_kept m_found, bindS (exSs ph_law_7f4e 1000000 bd_law_7f4e_1) (.one 6) p [some (.fro (.lst ((ns).map .int))), some (.fro (.int (cell))), some (.own (.lst [.int a, .int b, .int c])), some (.fro (hp n ks)), some (.fro (F)), some (.fro (.lst S)), (l_one), (l_due), (l_kept), (l_found), none] = .nx [some (.fro (.lst ((ns).map .int))), some (.fro (.int (cell))), some (.own (.lst [.int a, .int b, .int c])), some (.fro (hp n ks)), some (.fro (F)), some (.fro (.lst S)), some (.fro (p)), (m_due), (m_kept), (m_found), none] := by
  obtain ⟨fl, hp', f1, f2⟩ := h
  have hb : ∀ q ∈ fl, q.1.length ≤ 1000 ∧ q.2.natAbs < 18446744073709551616 := fun q hq => by
    have := f2 q hq
    omega
  have e1 := due_4e0e (n := n) hp' hk hl (by omega) hb
  have e2 := fholds_all (n := n) hp' hk hl (by omega) hb
  obtain ⟨s, e3⟩ := strX_ok (p := p.dn) (by rcases hp' with rfl | rfl | rfl; exact .inl rfl; exact .inl rfl; exact .inr rfl) f1 f2
  have n1 : ∀ v : Bool, neOP [.bl v, .bl v] = some (.bl false) := fun v => neOP_self rfl
  have n2 : neOP [.str s, .str s] = some (.bl false) := by simp [neOP, eqP_ss]
  generalize judgeJ n ks fl = v at *
  refine ⟨some (.fro (.bl v)), some (.fro (.str s)), some (.fro (.bl v)), ?_⟩
  rcases hp' with rfl | rfl | rfl
  all_goals
    dsimp only [PV.dn] at e3
    simp -implicitDefEqProofs [evx, bd_law_7f4e_1, ph_law_7f4e, e1, e2, -strDP, e3, -neOP, n1, n2]
theorem ones_7f4e {n a b c cell : Int} {ks : List (Int × Int)} {F : PV} {ns : List Int} {S : List PV} (hk : Kinds ks) (hl : ks.length < 64) : ∀ (l : List PV) (l_one l_due l_kept l_found : Option LV), (∀ p ∈ l, OneOk p) →
    ∃ m_one m_due m_kept m_found, forL (bindS (exSs ph_law_7f4e 1000000 bd_law_7f4e_1) (.one 6)) l [some (.fro (.lst ((ns).map .int))), some (.fro (.int (cell))), some (.own (.lst [.int a, .int b, .int c])), some (.fro (hp n ks)), some (.fro (F)), some (.fro (.lst S)), (l_one), (l_due), (l_kept), (l_found), none] = .nx [some (.fro (.lst ((ns).map .int))), some (.fro (.int (cell))), some (.own (.lst [.int a, .int b, .int c])), some (.fro (hp n ks)), some (.fro (F)), some (.fro (.lst S)), (m_one), (m_due), (m_kept), (m_found), none]
  | [], a1, a2, a3, a4, _ => ⟨a1, a2, a3, a4, rfl⟩
  | p :: l, a1, a2, a3, a4, h => by
    obtain ⟨m2, m3, m4, e⟩ := one_7f4e (n := n) (a := a) (b := b) (c := c) (cell := cell) (ks := ks) (F := F) (ns := ns) (S := S) hk hl (h p (by simp)) a1 a2 a3 a4
    obtain ⟨k1, k2, k3, k4, e2⟩ := ones_7f4e (n := n) (a := a) (b := b) (c := c) (cell := cell) (ks := ks) (F := F) (ns := ns) (S := S) hk hl l (some (.fro p)) m2 m3 m4 fun q hq => h q (by simp [hq])
    refine ⟨k1, k2, k3, k4, ?_⟩
    unfold forL
    rw [e]
    exact e2
theorem case_7f4e {a b c cell : Int} {ns : List Int} {r : Int × List (Int × Int) × List (List Int × Int)} (ha : 0 ≤ a) (hb : 0 ≤ b) (hb2 : b ≤ 100000000000) (R : CaseOk r.1 r.2.1 r.2.2) (l_heap l_filling l_some l_one l_due l_kept l_found : Option LV) :
    ∃ (a' b' : Int) (m_heap m_filling m_some m_one m_due m_kept m_found : Option LV), 0 ≤ a' ∧ b ≤ b' ∧ b' ≤ b + 100 ∧ bindS (exSs ph_law_7f4e 1000000 bd_law_7f4e_2) (.tup [.one 3, .one 4]) (caseV r) [some (.fro (.lst ((ns).map .int))), some (.fro (.int (cell))), some (.own (.lst [.int a, .int b, .int c])), l_heap, l_filling, l_some, l_one, l_due, l_kept, l_found, none] = .nx [some (.fro (.lst ((ns).map .int))), some (.fro (.int (cell))), some (.own (.lst [.int a', .int b', .int c])), m_heap, m_filling, m_some, m_one, m_due, m_kept, m_found, none] := by
  obtain ⟨n, ks, fl⟩ := r
  obtain ⟨r1, r2, hk, r4, r5, F, srt, r8, r9⟩ := R
  dsimp only at r1 r2 hk r4 r5 F srt r8 r9
  have hsp : ∀ q ∈ fl, LotOk q.1 ∧ 1 ≤ q.2 ∧ q.2 ≤ 1000000000000 := fun q hq => by
    obtain ⟨g1, g2, g3⟩ := F.2.1 q hq
    exact ⟨g1, g3, r9 q hq⟩
  obtain ⟨_, ys, hcomp, a1, b1, hY, hYl, a10, b10, b11, rfl⟩ := compL_runN (f := cF ph_law_7f4e (.one 10) [10] [] el_law_7f4e_1)
    (fun i done ρ => ∃ (a1 b1 : Int), (∀ p ∈ done, OneOk p) ∧ done.length = i ∧ 0 ≤ a1 ∧ b ≤ b1 ∧ b1 ≤ b + 10 * (i : Int) ∧ ρ = [some (.fro (.lst ((ns).map .int))), some (.fro (.int (cell))), some (.own (.lst [.int a1, .int b1, .int c])), some (.fro (hp n ks)), some (.fro (.xt (fl.map flX))), (l_some), (l_one), (l_due), (l_kept), (l_found), none])
    (xs := rngP 0 5) (ρ := [some (.fro (.lst ((ns).map .int))), some (.fro (.int (cell))), some (.own (.lst [.int a, .int b, .int c])), some (.fro (hp n ks)), some (.fro (.xt (fl.map flX))), (l_some), (l_one), (l_due), (l_kept), (l_found), none]) 0 []
    ⟨a, b, by simp, rfl, ha, by omega, by omega, rfl⟩
    (fun i x done ρ hx hi => by
      obtain ⟨a1, b1, h1, h2, h3, h4, h5, rfl⟩ := hi
      obtain ⟨rfl, hi2⟩ := rngP_at hx
      obtain ⟨fl', p, a2, b2, s1, s2, s3, s4, s5, s6, e⟩ := spoilt_26e7 (c := c) (n := n) h3 (show 0 ≤ b1 by omega) (by omega) r1 r2 (by omega) r5 (by omega) hsp
      refine ⟨[some (.fro (.lst ((ns).map .int))), some (.fro (.int (cell))), some (.own (.lst [.int a2, .int b2, .int c])), some (.fro (hp n ks)), some (.fro (.xt (fl.map flX))), (l_some), (l_one), (l_due), (l_kept), (l_found), none], some p, ?_, a2, b2, fun q hq => ?_, by simp; omega, s4, by omega, by omega, rfl⟩
      · simp -implicitDefEqProofs [evx, el_law_7f4e_1, ph_law_7f4e, e]
      · rcases List.mem_append.mp hq with hq | hq
        · exact h1 q hq
        · obtain rfl := List.mem_singleton.mp hq
          exact ⟨fl', s1, s2, s3⟩)
  have hYl5 : ys.length = 5 := by simpa [rngP_len] using hYl
  have r5' : rngOk 5 := rng_ok (by omega) (by omega)
  have b12 : b1 ≤ b + 50 := by rw [rngP_len] at b11; omega
  have A : ∀ p ∈ PV.xt (fl.map flX) :: PV.tup [] :: ys, OneOk p := fun p hp => by
    rcases List.mem_cons.mp hp with rfl | hp
    · exact ⟨fl, .inr (.inl rfl), by omega, fun q hq => by
        obtain ⟨⟨l1, l2, l3, l4⟩, g2, g3⟩ := hsp q hq
        exact ⟨by omega, fun x hx => by have := l3 x hx; omega, by omega⟩⟩
    · rcases List.mem_cons.mp hp with rfl | hp
      · exact ⟨[], .inl rfl, by simp, fun q hq => by simp at hq⟩
      · exact hY p hp
  obtain ⟨m1, m2, m3, m4, e2⟩ := ones_7f4e (n := n) (a := a1) (b := b1) (c := c) (cell := cell) (ks := ks) (F := .xt (fl.map flX)) (ns := ns) (S := PV.xt (fl.map flX) :: PV.tup [] :: ys) hk (by omega) _ l_one l_due l_kept l_found A
  have e3 := fholds_all (n := n) (ks := ks) (fl := fl) (p := .xt (fl.map flX)) (.inr (.inl rfl)) hk (by omega) (by omega) fun q hq => by
    obtain ⟨⟨l1, l2, l3, l4⟩, g2, g3⟩ := hsp q hq
    omega
  rw [judge_fil F srt] at e3
  have l2 : 2 + ys.length ≤ 1000000 := by omega
  refine ⟨a1, b1, some (.fro (hp n ks)), some (.fro (.xt (fl.map flX))), some (.fro (.lst (.xt (fl.map flX) :: .tup [] :: ys))), m1, m2, m3, m4, a10, by omega, by omega, ?_⟩
  have h5 : (rngP 0 5).length ≤ 1000000 := by rw [rngP_len]; omega
  simp -implicitDefEqProofs [evx, bd_law_7f4e_2, ph_law_7f4e, caseV, r5']
  generalize fl.map flX = G at *
  rw [if_pos h5, hcomp]
  simp -implicitDefEqProofs [evx, ph_law_7f4e, l2, e2, e3]
theorem law_7f4e_pure (ns : List Int) (hn : ns.length ≤ 63) : ∃ ls', g_law_7f4e [.fro (.lst (ns.map .int))] = .ok (.fro (.bl true)) ls' := by
  obtain ⟨L, l1, l2, e0⟩ := folded_928f (ns := ns) (m := 4) (by omega) (by omega) (by omega)
  have hL : L.length ≤ 1000000 := by omega
  obtain ⟨ρ, e1, l_cell, l_pot, l_heap, l_filling, l_some, l_one, l_due, l_kept, l_found, rfl⟩ := forL_inv (f := bindS (exSs ph_law_7f4e 1000000 bd_law_7f4e_3) (.one 1)) (xs := L.map .int)
    (ρ := [some (.fro (.lst ((ns).map .int))), none, none, none, none, none, none, none, none, none, none])
    (fun i ρ => ∃ l_cell l_pot l_heap l_filling l_some l_one l_due l_kept l_found : Option LV, ρ = [some (.fro (.lst ((ns).map .int))), l_cell, l_pot, l_heap, l_filling, l_some, l_one, l_due, l_kept, l_found, none])
    ⟨_, _, _, _, _, _, _, _, _, rfl⟩
    (fun i x ρ hx hi => by
      obtain ⟨l_cell, l_pot, l_heap, l_filling, l_some, l_one, l_due, l_kept, l_found, rfl⟩ := hi
      obtain ⟨cell, _, rfl⟩ := List.mem_map.mp (List.mem_of_getElem? hx)
      obtain ⟨a, c, ha, f1⟩ := begun_984b cell
      obtain ⟨l, a1, b1, w1, w2, w3, w4, w5, f2⟩ := cases_0759 (a := a) (b := 0) (c := c) ha (by omega) (by omega)
      have hl6 : l.length ≤ 1000000 := by omega
      obtain ⟨ρ2, e2, a2, b2, m_heap, m_filling, m_some, m_one, m_due, m_kept, m_found, v1, v2, v3, rfl⟩ := forL_inv (f := bindS (exSs ph_law_7f4e 1000000 bd_law_7f4e_2) (.tup [.one 3, .one 4])) (xs := l.map caseV)
        (ρ := [some (.fro (.lst ((ns).map .int))), some (.fro (.int (cell))), some (.own (.lst [.int a1, .int b1, .int c])), l_heap, l_filling, l_some, l_one, l_due, l_kept, l_found, none])
        (fun i ρ => ∃ (a2 b2 : Int) (m_heap m_filling m_some m_one m_due m_kept m_found : Option LV), 0 ≤ a2 ∧ b1 ≤ b2 ∧ b2 ≤ b1 + 100 * (i : Int) ∧ ρ = [some (.fro (.lst ((ns).map .int))), some (.fro (.int (cell))), some (.own (.lst [.int a2, .int b2, .int c])), m_heap, m_filling, m_some, m_one, m_due, m_kept, m_found, none])
        ⟨a1, b1, l_heap, l_filling, l_some, l_one, l_due, l_kept, l_found, w3, by omega, by omega, rfl⟩
        (fun j y ρ hy hj => by
          obtain ⟨a2, b2, m_heap, m_filling, m_some, m_one, m_due, m_kept, m_found, v1, v2, v3, rfl⟩ := hj
          have hjl : j < l.length := by
            have := (List.getElem?_eq_some_iff.mp hy).1
            simpa using this
          obtain ⟨r, hr, rfl⟩ := List.mem_map.mp (List.mem_of_getElem? hy)
          obtain ⟨a3, b3, k1, k2, k3, k4, k5, k6, k7, u1, u2, u3, e⟩ := case_7f4e (c := c) (cell := cell) (ns := ns) v1 (show 0 ≤ b2 by omega) (by omega) (w2 r hr) m_heap m_filling m_some m_one m_due m_kept m_found
          exact ⟨_, .inl e, a3, b3, k1, k2, k3, k4, k5, k6, k7, u1, by omega, by omega, rfl⟩)
      refine ⟨[some (.fro (.lst ((ns).map .int))), some (.fro (.int (cell))), some (.own (.lst [.int a2, .int b2, .int c])), m_heap, m_filling, m_some, m_one, m_due, m_kept, m_found, none], .inl ?_, some (.fro (.int cell)), some (.own (.lst [.int a2, .int b2, .int c])), m_heap, m_filling, m_some, m_one, m_due, m_kept, m_found, rfl⟩
      simp -implicitDefEqProofs [evx, bd_law_7f4e_3, ph_law_7f4e, f1, f2, hl6, e2])
  (unfold g_law_7f4e ir_law_7f4e; rw [runFn_eq _ _ _ _ ⟨rfl, by decide, rfl⟩])
  simp -implicitDefEqProofs [evx, ph_law_7f4e, e0, hL, e1]
end Cm
set_option maxHeartbeats 0
namespace Lk14
open PySem PySem.Spec PyProof.Rows L2 Br Cm
structure Hx (K : PySem.W.Frag) (mg : Str → Option Value) : Prop where
  d__law_begun : Dn K mg "_law_begun" s__law_begun
  d__law_due : Dn K mg "_law_due" s__law_due
  d__law_folded : Dn K mg "_law_folded" s__law_folded
  d__law_less : Dn K mg "_law_less" s__law_less
  d__law_take : Dn K mg "_law_take" s__law_take
  d_counted_heap : Dn K mg "counted_heap" s_counted_heap
  d_counts_of : Dn K mg "counts_of" s_counts_of
  d_is_full : Dn K mg "is_full" s_is_full
  d_is_whole : Dn K mg "is_whole" s_is_whole
  d__law_full_lot : Dn K mg "_law_full_lot" s__law_full_lot
  d__law_other_lot : Dn K mg "_law_other_lot" s__law_other_lot
  d__law_wide : Dn K mg "_law_wide" s__law_wide
  d_counts_taken : Dn K mg "counts_taken" s_counts_taken
  d_is_size : Dn K mg "is_size" s_is_size
  d_taken_from : Dn K mg "taken_from" s_taken_from
  d__law_filling : Dn K mg "_law_filling" s__law_filling
  d__law_many : Dn K mg "_law_many" s__law_many
  d__law_need : Dn K mg "_law_need" s__law_need
  d__law_size : Dn K mg "_law_size" s__law_size
  d__law_spoilt : Dn K mg "_law_spoilt" s__law_spoilt
  d_is_lot : Dn K mg "is_lot" s_is_lot
  d__law_heap : Dn K mg "_law_heap" s__law_heap
  d__law_small_heap : Dn K mg "_law_small_heap" s__law_small_heap
  d_filling_holds : Dn K mg "filling_holds" s_filling_holds
  d__law_cases : Dn K mg "_law_cases" s__law_cases
  d_law : Dn K mg "law" s_law
  b_abs : mg "abs" = none
  b_all : mg "all" = none
  b_bool : mg "bool" = none
  b_dict : mg "dict" = none
  b_enumerate : mg "enumerate" = none
  b_int : mg "int" = none
  b_isinstance : mg "isinstance" = none
  b_len : mg "len" = none
  b_list : mg "list" = none
  b_max : mg "max" = none
  b_min : mg "min" = none
  b_range : mg "range" = none
  b_sorted : mg "sorted" = none
  b_str : mg "str" = none
  b_sum : mg "sum" = none
  b_tuple : mg "tuple" = none
  g_MOST_IN_LOT : ∃ t, mg "MOST_IN_LOT" = some (.int 100 t)
  g_MOST_SIZE : ∃ t, mg "MOST_SIZE" = some (.int 1000000000000 t)
section
variable {P : Program} {w : World} {K : PySem.W.Frag} {mg : Str → Option Value} {base : Heap}
theorem sc__law_begun : FnScope ["cell", "rest"] ["cell"] (defScope s__law_begun) := ⟨rfl, rfl, rfl, by decide +kernel, rfl, by decide +kernel, by decide +kernel⟩
theorem ok__law_begun (h : Hx K mg) : Ok P w K mg base 1 "_law_begun" ["cell"] g_law_begun_984b :=
  def_at ir_law_begun_984b h.d__law_begun sc__law_begun rfl rfl (fun _ _ _ _ _ _ us hl => match us, hl with | [_], _ => rfl) fun cdv A outer s H E C bx =>
      (ss_cons (st_set (i := 1) bx.o.toXO rfl (locBy rfl) (by decide) (l_of e_int) rfl (.inl rfl))
      (ss_cons (st_if (x_ge bx.o.toXO (a_val (e_op (f_abs bx.o.toXO rfl h.b_abs (a_var (i := 0) rfl (visBy rfl))))) (a_val (e_op (b_pow bx.o.toXO (a_val e_int) (a_val e_int))))) (ss_cons (st_set (i := 1) bx.o.toXO rfl (locBy rfl) (by decide) (l_op (b_add bx.o.toXO (a_val (e_op (b_sub bx.o.toXO (a_val (e_op (f_abs bx.o.toXO rfl h.b_abs (a_var (i := 0) rfl (visBy rfl))))) (a_val (e_op (b_pow bx.o.toXO (a_val e_int) (a_val e_int))))))) (a_val e_int))) rfl (.inl rfl))
      ss_nil) ss_nil)
      (ss_cons (st_ret (l_lst (es_cons (e_var (i := 1) rfl (visBy rfl)) (es_cons e_int (es_cons (e_op (b_mod bx.o.toXO (a_var (i := 0) rfl (visBy rfl)) (a_val e_int))) es_nil)))))
      ss_nil)))
theorem sc__law_due : FnScope ["heap", "filling", "need", "kinds", "left", "last", "lot", "times", "size", "many"] ["heap", "filling"] (defScope s__law_due) := ⟨rfl, rfl, rfl, by decide +kernel, rfl, by decide +kernel, by decide +kernel⟩
theorem ok__law_due (h : Hx K mg) : Ok P w K mg base 1 "_law_due" ["heap", "filling"] g_law_due_4e0e :=
  def_at ir_law_due_4e0e h.d__law_due sc__law_due rfl rfl (fun _ _ _ _ _ _ us hl => match us, hl with | [_, _], _ => rfl) fun cdv A outer s H E C bx =>
      (ss_cons (st_unp (by decide) (e_var (i := 0) rfl (visBy rfl)) (g_tup bx.o (gs_cons (g_name bx.o.toXO (i := 2) rfl (locBy rfl)) (gs_cons (g_name bx.o.toXO (i := 3) rfl (locBy rfl)) gs_nil))))
      (ss_cons (st_set (i := 4) bx.o.toXO rfl (locBy rfl) (by decide) (l_op (f_dict bx.o rfl h.b_dict (a_var (i := 3) rfl (visBy rfl)))) rfl (.inl rfl))
      (ss_cons (st_set (i := 5) bx.o.toXO rfl (locBy rfl) (by decide) (l_of (e_xtup es_nil)) rfl (.inl rfl))
      (ss_cons (st_for bx.o bx.po (s_seq bx.o.toXO (e_var (i := 1) rfl (visBy rfl))) (g_tup bx.o (gs_cons (g_name bx.o.toXO (i := 6) rfl (locBy rfl)) (gs_cons (g_name bx.o.toXO (i := 7) rfl (locBy rfl)) gs_nil))) (by decide) (ss_cons (st_if (PW.pt (w_or (t_not (xch bx.o.toXO (or_le bx.o.toXO.un) (or_le bx.o.toXO.un) e_int (e_op (f_len bx.o.toXO rfl h.b_len (a_var (i := 6) rfl (visBy rfl)))) e_int)) (w_or (x_ne bx.o.toXO (a_val (e_op (f_list bx.o.toXO rfl h.b_list (a_var (i := 6) rfl (visBy rfl))))) (a_val (e_op (f_sortedD bx.o rfl h.b_sorted (a_var (i := 6) rfl (visBy rfl)))))) (w_or (x_lt bx.o.toXO (a_val (e_op (o_ix bx.o.toXO (a_var (i := 6) rfl (visBy rfl)) (a_val e_int)))) (a_val e_int)) (w_or1 (x_gt bx.o.toXO (a_val (e_op (o_ix bx.o.toXO (a_var (i := 6) rfl (visBy rfl)) (a_val (e_op (o_neg bx.o.toXO (a_val e_int))))))) (a_val (e_op (b_pow bx.o.toXO (a_val e_int) (a_val e_int)))))))))) (ss_cons (st_ret (l_of e_bl))
      ss_nil) ss_nil)
      (ss_cons (st_if (PW.pt (w_or (x_lt bx.o.toXO (a_val (e_op (f_sum bx.o rfl h.b_sum (a_var (i := 6) rfl (visBy rfl))))) (a_var (i := 2) rfl (visBy rfl))) (w_or (x_lt bx.o.toXO (a_var (i := 7) rfl (visBy rfl)) (a_val e_int)) (w_or1 (t_not (x_lt bx.o.toXO (a_var (i := 5) rfl (visBy rfl)) (a_var (i := 6) rfl (visBy rfl)))))))) (ss_cons (st_ret (l_of e_bl))
      ss_nil) ss_nil)
      (ss_cons (st_set (i := 5) bx.o.toXO rfl (locBy rfl) (by decide) (l_of (e_var (i := 6) rfl (visBy rfl))) rfl (.inl rfl))
      (ss_cons (st_for bx.o bx.po (s_seq bx.o.toXO (e_var (i := 6) rfl (visBy rfl))) (g_name bx.o.toXO (i := 8) rfl (locBy rfl)) (by decide) (ss_cons (st_setIx (i := 4) bx.o.toXO rfl (visBy rfl) (e_var (i := 8) rfl (visBy rfl)) (e_op (b_sub bx.o.toXO (a_val (e_mth (m_dget bx.o.toXO (a_var (i := 4) rfl (visBy rfl)) (a_var (i := 8) rfl (visBy rfl)) (a_val e_int)))) (a_var (i := 7) rfl (visBy rfl)))))
      ss_nil))
      ss_nil)))))
      (ss_cons (st_ret (l_op (f_all bx.o rfl h.b_all (a_val (e_comp (l_comp bx.o (own := [("many", 9)]) (s_seq bx.o.toXO (e_op (f_listVals bx.o rfl h.b_list (a_var (i := 4) rfl (visBy rfl))))) (blkOk_by (by rfl)) (by decide) (fun C1 h1 s1 H1 D1 c1 l1 => (g_name (bx.o.blk h1).toXO (i := 9) rfl (locBy rfl))) (fun C1 h1 s1 H1 D1 c1 l1 => ts_nil) (fun C1 h1 s1 H1 D1 c1 l1 => (e_op (c_ge (bx.o.blk h1).toXO (a_var (i := 9) rfl (visBy rfl)) (a_val e_int))))))))))
      ss_nil)))))
theorem sc__law_folded : FnScope ["cells", "many", "found", "k", "cell"] ["cells", "many"] (defScope s__law_folded) := ⟨rfl, rfl, rfl, by decide +kernel, rfl, by decide +kernel, by decide +kernel⟩
theorem ok__law_folded (h : Hx K mg) : Ok P w K mg base 1 "_law_folded" ["cells", "many"] g_law_folded_928f :=
  def_at ir_law_folded_928f h.d__law_folded sc__law_folded rfl rfl (fun _ _ _ _ _ _ us hl => match us, hl with | [_, _], _ => rfl) fun cdv A outer s H E C bx =>
      (ss_cons (st_set (i := 2) bx.o.toXO rfl (locBy rfl) (by decide) (l_op (b_mul bx.o.toXO (a_val (e_lst (l_lst (es_cons e_int es_nil)))) (a_val (e_op (f_min2 bx.o rfl h.b_min (a_var (i := 1) rfl (visBy rfl)) (a_val (e_op (f_max2 bx.o rfl h.b_max (a_val e_int) (a_val (e_op (f_len bx.o.toXO rfl h.b_len (a_var (i := 0) rfl (visBy rfl))))))))))))) rfl (.inl rfl))
      (ss_cons (st_for bx.o bx.po (s_enum bx.o.toXO rfl h.b_enumerate (e_var (i := 0) rfl (visBy rfl))) (g_tup bx.o (gs_cons (g_name bx.o.toXO (i := 3) rfl (locBy rfl)) (gs_cons (g_name bx.o.toXO (i := 4) rfl (locBy rfl)) gs_nil))) (by decide) (ss_cons (st_setIx (i := 2) bx.o.toXO rfl (visBy rfl) (e_op (b_mod bx.o.toXO (a_var (i := 3) rfl (visBy rfl)) (a_val (e_op (f_len bx.o.toXO rfl h.b_len (a_var (i := 2) rfl (visBy rfl))))))) (e_op (b_add bx.o.toXO (a_val (e_op (b_mul bx.o.toXO (a_val (e_op (o_ix bx.o.toXO (a_var (i := 2) rfl (visBy rfl)) (a_val (e_op (b_mod bx.o.toXO (a_var (i := 3) rfl (visBy rfl)) (a_val (e_op (f_len bx.o.toXO rfl h.b_len (a_var (i := 2) rfl (visBy rfl))))))))))) (a_val e_int)))) (a_var (i := 4) rfl (visBy rfl)))))
      ss_nil))
      (ss_cons (st_retV (i := 2) rfl (visBy rfl))
      ss_nil)))
theorem sc__law_less : FnScope ["heap", "lot", "times", "left", "size"] ["heap", "lot", "times"] (defScope s__law_less) := ⟨rfl, rfl, rfl, by decide +kernel, rfl, by decide +kernel, by decide +kernel⟩
theorem ok__law_less (h : Hx K mg) : Ok P w K mg base 1 "_law_less" ["heap", "lot", "times"] g_law_less_8ef1 :=
  def_at ir_law_less_8ef1 h.d__law_less sc__law_less rfl rfl (fun _ _ _ _ _ _ us hl => match us, hl with | [_, _, _], _ => rfl) fun cdv A outer s H E C bx =>
      (ss_cons (st_set (i := 3) bx.o.toXO rfl (locBy rfl) (by decide) (l_op (f_dict bx.o rfl h.b_dict (a_val (e_op (o_ix bx.o.toXO (a_var (i := 0) rfl (visBy rfl)) (a_val e_int)))))) rfl (.inl rfl))
      (ss_cons (st_for bx.o bx.po (s_seq bx.o.toXO (e_var (i := 1) rfl (visBy rfl))) (g_name bx.o.toXO (i := 4) rfl (locBy rfl)) (by decide) (ss_cons (st_setIx (i := 3) bx.o.toXO rfl (visBy rfl) (e_var (i := 4) rfl (visBy rfl)) (e_op (b_sub bx.o.toXO (a_val (e_mth (m_dget bx.o.toXO (a_var (i := 3) rfl (visBy rfl)) (a_var (i := 4) rfl (visBy rfl)) (a_val e_int)))) (a_var (i := 2) rfl (visBy rfl)))))
      (ss_cons (st_if (x_lt bx.o.toXO (a_val (e_op (o_ix bx.o.toXO (a_var (i := 3) rfl (visBy rfl)) (a_var (i := 4) rfl (visBy rfl))))) (a_val e_int)) (ss_cons (st_ret (l_of e_non))
      ss_nil) ss_nil)
      ss_nil)))
      (ss_cons (st_ret (l_of (e_tup (es_cons (e_op (o_ix bx.o.toXO (a_var (i := 0) rfl (visBy rfl)) (a_val e_int))) (es_cons (e_op (f_tupleX bx.o.toXO rfl h.b_tuple (a_val (e_comp (l_comp bx.o (own := [("size", 4)]) (s_seq bx.o.toXO (e_op (f_sortedD bx.o rfl h.b_sorted (a_var (i := 3) rfl (visBy rfl))))) (blkOk_by (by rfl)) (by decide) (fun C1 h1 s1 H1 D1 c1 l1 => (g_name (bx.o.blk h1).toXO (i := 4) rfl (locBy rfl))) (fun C1 h1 s1 H1 D1 c1 l1 => (ts_one (x_gt (bx.o.blk h1).toXO (a_val (e_op (o_ix (bx.o.blk h1).toXO (a_var (i := 3) rfl (visBy rfl)) (a_var (i := 4) rfl (visBy rfl))))) (a_val e_int)))) (fun C1 h1 s1 H1 D1 c1 l1 => (e_tup (es_cons (e_var (i := 4) rfl (visBy rfl)) (es_cons (e_op (o_ix (bx.o.blk h1).toXO (a_var (i := 3) rfl (visBy rfl)) (a_var (i := 4) rfl (visBy rfl)))) es_nil))))))))) es_nil)))))
      ss_nil)))
theorem sc__law_take : FnScope ["pot", "size", "digit", "mixed"] ["pot", "size"] (defScope s__law_take) := ⟨rfl, rfl, rfl, by decide +kernel, rfl, by decide +kernel, by decide +kernel⟩
theorem ok__law_take (h : Hx K mg) : Ok P w K mg base 1 "_law_take" ["pot", "size"] g_law_take_481c :=
  def_at ir_law_take_481c h.d__law_take sc__law_take rfl rfl (fun _ _ _ _ _ _ us hl => match us, hl with | [_, _], _ => rfl) fun cdv A outer s H E C bx =>
      (ss_cons (st_if (x_gt bx.o.toXO (a_val (e_op (o_ix bx.o.toXO (a_var (i := 0) rfl (visBy rfl)) (a_val e_int)))) (a_val e_int)) (ss_cons (st_set (i := 2) bx.o.toXO rfl (locBy rfl) (by decide) (l_op (b_mod bx.o.toXO (a_val (e_op (o_ix bx.o.toXO (a_var (i := 0) rfl (visBy rfl)) (a_val e_int)))) (a_var (i := 1) rfl (visBy rfl)))) rfl (.inl rfl))
      (ss_cons (st_setIx (i := 0) bx.o.toXO rfl (visBy rfl) e_int (e_op (b_fdiv bx.o.toXO (a_val (e_op (o_ix bx.o.toXO (a_var (i := 0) rfl (visBy rfl)) (a_val e_int)))) (a_var (i := 1) rfl (visBy rfl)))))
      (ss_cons (st_retV (i := 2) rfl (visBy rfl))
      ss_nil))) ss_nil)
      (ss_cons (st_setIx (i := 0) bx.o.toXO rfl (visBy rfl) e_int (e_op (b_add bx.o.toXO (a_val (e_op (o_ix bx.o.toXO (a_var (i := 0) rfl (visBy rfl)) (a_val e_int)))) (a_val e_int))))
      (ss_cons (st_set (i := 3) bx.o.toXO rfl (locBy rfl) (by decide) (l_op (b_mod bx.o.toXO (a_val (e_op (b_add bx.o.toXO (a_val (e_op (b_add bx.o.toXO (a_val (e_op (b_add bx.o.toXO (a_val (e_op (o_ix bx.o.toXO (a_var (i := 0) rfl (visBy rfl)) (a_val e_int)))) (a_val (e_op (b_mul bx.o.toXO (a_val (e_op (b_mul bx.o.toXO (a_val e_int) (a_val (e_op (o_ix bx.o.toXO (a_var (i := 0) rfl (visBy rfl)) (a_val e_int))))))) (a_val (e_op (o_ix bx.o.toXO (a_var (i := 0) rfl (visBy rfl)) (a_val e_int)))))))))) (a_val (e_op (b_mul bx.o.toXO (a_val e_int) (a_val (e_op (o_ix bx.o.toXO (a_var (i := 0) rfl (visBy rfl)) (a_val e_int)))))))))) (a_val e_int)))) (a_val e_int))) rfl (.inl rfl))
      (ss_cons (st_set (i := 3) bx.o.toXO rfl (locBy rfl) (by decide) (l_op (b_mod bx.o.toXO (a_val (e_op (b_mul bx.o.toXO (a_val (e_op (b_mod bx.o.toXO (a_val (e_op (b_mul bx.o.toXO (a_var (i := 3) rfl (visBy rfl)) (a_var (i := 3) rfl (visBy rfl))))) (a_val e_int)))) (a_val e_int)))) (a_val e_int))) rfl (.inl rfl))
      (ss_cons (st_ret (l_op (b_mod bx.o.toXO (a_val (e_op (b_fdiv bx.o.toXO (a_var (i := 3) rfl (visBy rfl)) (a_val e_int)))) (a_var (i := 1) rfl (visBy rfl)))))
      ss_nil)))))
theorem sc_counted_heap : FnScope ["need", "counts", "size"] ["need", "counts"] (defScope s_counted_heap) := ⟨rfl, rfl, rfl, by decide +kernel, rfl, by decide +kernel, by decide +kernel⟩
theorem ok_counted_heap (h : Hx K mg) : Ok P w K mg base 1 "counted_heap" ["need", "counts"] g_counted_heap_7b0d :=
  def_at ir_counted_heap_7b0d h.d_counted_heap sc_counted_heap rfl rfl (fun _ _ _ _ _ _ us hl => match us, hl with | [_, _], _ => rfl) fun cdv A outer s H E C bx =>
      (ss_cons (st_ret (l_of (e_tup (es_cons (e_var (i := 0) rfl (visBy rfl)) (es_cons (e_op (f_tupleX bx.o.toXO rfl h.b_tuple (a_val (e_comp (l_comp bx.o (own := [("size", 2)]) (s_seq bx.o.toXO (e_op (f_sortedD bx.o rfl h.b_sorted (a_var (i := 1) rfl (visBy rfl))))) (blkOk_by (by rfl)) (by decide) (fun C1 h1 s1 H1 D1 c1 l1 => (g_name (bx.o.blk h1).toXO (i := 2) rfl (locBy rfl))) (fun C1 h1 s1 H1 D1 c1 l1 => (ts_one (x_gt (bx.o.blk h1).toXO (a_val (e_op (o_ix (bx.o.blk h1).toXO (a_var (i := 1) rfl (visBy rfl)) (a_var (i := 2) rfl (visBy rfl))))) (a_val e_int)))) (fun C1 h1 s1 H1 D1 c1 l1 => (e_tup (es_cons (e_var (i := 2) rfl (visBy rfl)) (es_cons (e_op (o_ix (bx.o.blk h1).toXO (a_var (i := 1) rfl (visBy rfl)) (a_var (i := 2) rfl (visBy rfl)))) es_nil))))))))) es_nil)))))
      ss_nil)
theorem sc_counts_of : FnScope ["some", "counts", "size"] ["some"] (defScope s_counts_of) := ⟨rfl, rfl, rfl, by decide +kernel, rfl, by decide +kernel, by decide +kernel⟩
theorem ok_counts_of (h : Hx K mg) : Ok P w K mg base 1 "counts_of" ["some"] g_counts_of_e975 :=
  def_at ir_counts_of_e975 h.d_counts_of sc_counts_of rfl rfl (fun _ _ _ _ _ _ us hl => match us, hl with | [_], _ => rfl) fun cdv A outer s H E C bx =>
      (ss_cons (st_set (i := 1) bx.o.toXO rfl (locBy rfl) (by decide) l_dnew rfl (.inl rfl))
      (ss_cons (st_for bx.o bx.po (s_seq bx.o.toXO (e_var (i := 0) rfl (visBy rfl))) (g_name bx.o.toXO (i := 2) rfl (locBy rfl)) (by decide) (ss_cons (st_setIx (i := 1) bx.o.toXO rfl (visBy rfl) (e_var (i := 2) rfl (visBy rfl)) (e_op (b_add bx.o.toXO (a_val (e_mth (m_dget bx.o.toXO (a_var (i := 1) rfl (visBy rfl)) (a_var (i := 2) rfl (visBy rfl)) (a_val e_int)))) (a_val e_int))))
      ss_nil))
      (ss_cons (st_retV (i := 1) rfl (visBy rfl))
      ss_nil)))
theorem sc_is_full : FnScope ["need", "lot"] ["need", "lot"] (defScope s_is_full) := ⟨rfl, rfl, rfl, by decide +kernel, rfl, by decide +kernel, by decide +kernel⟩
theorem ok_is_full (h : Hx K mg) : Ok P w K mg base 1 "is_full" ["need", "lot"] g_is_full_ffcd :=
  def_at ir_is_full_ffcd h.d_is_full sc_is_full rfl rfl (fun _ _ _ _ _ _ us hl => match us, hl with | [_, _], _ => rfl) fun cdv A outer s H E C bx =>
      (ss_cons (st_ret (l_op (c_ge bx.o.toXO (a_val (e_op (f_sum bx.o rfl h.b_sum (a_var (i := 1) rfl (visBy rfl))))) (a_var (i := 0) rfl (visBy rfl)))))
      ss_nil)
theorem sc_is_whole : FnScope ["thing"] ["thing"] (defScope s_is_whole) := ⟨rfl, rfl, rfl, by decide +kernel, rfl, by decide +kernel, by decide +kernel⟩
theorem ok_is_whole (h : Hx K mg) : Ok P w K mg base 1 "is_whole" ["thing"] g_is_whole_15c9 :=
  def_at ir_is_whole_15c9 h.d_is_whole sc_is_whole rfl rfl (fun _ _ _ _ _ _ us hl => match us, hl with | [_], _ => rfl) fun cdv A outer s H E C bx =>
      (ss_cons (st_ret (l_of (e_and (e_op (o_isT1 rfl h.b_isinstance bx.o.toXO (a_var (i := 0) rfl (visBy rfl)) (ty_int rfl h.b_int))) (e_one (e_not (e_op (o_isT1 rfl h.b_isinstance bx.o.toXO (a_var (i := 0) rfl (visBy rfl)) (ty_bool rfl h.b_bool))))))))
      ss_nil)
theorem sc__law_full_lot : FnScope ["pot", "heap", "left", "found", "more", "turn", "sizes", "size"] ["pot", "heap"] (defScope s__law_full_lot) := ⟨rfl, rfl, rfl, by decide +kernel, rfl, by decide +kernel, by decide +kernel⟩
theorem ok__law_full_lot (h : Hx K mg) : Ok P w K mg base 2 "_law_full_lot" ["pot", "heap"] g_law_full_lot_9208 :=
  def_at ir_law_full_lot_9208 h.d__law_full_lot sc__law_full_lot rfl rfl (fun _ _ _ _ _ _ us hl => match us, hl with | [_, _], _ => rfl) fun cdv A outer s H E C bx =>
      (ss_cons (st_set (i := 2) bx.o.toXO rfl (locBy rfl) (by decide) (l_op (f_dict bx.o rfl h.b_dict (a_val (e_op (o_ix bx.o.toXO (a_var (i := 1) rfl (visBy rfl)) (a_val e_int)))))) rfl (.inl rfl))
      (ss_cons (st_set (i := 3) bx.o.toXO rfl (locBy rfl) (by decide) (l_lst es_nil) rfl (.inl rfl))
      (ss_cons (st_set (i := 4) bx.o.toXO rfl (locBy rfl) (by decide) (l_op (b_mul bx.o.toXO (a_val (e_call (l_fn bx.o.toXO (j := 361) (ok__law_take h) (bx.room.mono (by decide)) rfl bx.tk (as_cons (a_var (i := 0) rfl (visBy rfl)) (as_cons (a_val e_int) as_nil))))) (a_val (e_call (l_fn bx.o.toXO (j := 361) (ok__law_take h) (bx.room.mono (by decide)) rfl bx.tk (as_cons (a_var (i := 0) rfl (visBy rfl)) (as_cons (a_val e_int) as_nil))))))) rfl (.inl rfl))
      (ss_cons (st_for bx.o bx.po (s_rng1 (by rfl) h.b_range e_int) (g_name bx.o.toXO (i := 5) rfl (locBy rfl)) (by decide) (ss_cons (st_setC (i := 6) bx.o rfl rfl (by decide) (sw_true rfl rfl rfl rfl) (own := [("size", 7)]) (s_seq bx.o.toXO (e_op (f_sortedD bx.o rfl h.b_sorted (a_var (i := 2) rfl (visBy rfl))))) (blkOk_by (by rfl)) (by decide) (fun C1 h1 s1 H1 D1 c1 l1 => (g_name (bx.o.blk h1).toXO (i := 7) rfl (locBy rfl))) (fun C1 h1 s1 H1 D1 c1 l1 => (ts_one (x_gt (bx.o.blk h1).toXO (a_val (e_op (o_ix (bx.o.blk h1).toXO (a_var (i := 2) rfl (visBy rfl)) (a_var (i := 7) rfl (visBy rfl))))) (a_val e_int)))) (fun C1 h1 s1 H1 D1 c1 l1 => (e_var (i := 7) rfl (visBy rfl))))
      (ss_cons (st_if (PW.pt (w_and (x_gt bx.o.toXO (a_val (e_op (f_len bx.o.toXO rfl h.b_len (a_var (i := 6) rfl (visBy rfl))))) (a_val e_int)) (w_and1 (PW.pt (w_or (x_lt bx.o.toXO (a_val (e_op (f_sum bx.o rfl h.b_sum (a_var (i := 3) rfl (visBy rfl))))) (a_val (e_op (o_ix bx.o.toXO (a_var (i := 1) rfl (visBy rfl)) (a_val e_int))))) (w_or1 (x_gt bx.o.toXO (a_var (i := 4) rfl (visBy rfl)) (a_val e_int)))))))) (ss_cons (st_set (i := 4) bx.o.toXO rfl (locBy rfl) (by decide) (l_op (b_sub bx.o.toXO (a_var (i := 4) rfl (visBy rfl)) (a_val (e_op (f_int bx.o.toXO rfl h.b_int (a_val (e_op (c_ge bx.o.toXO (a_val (e_op (f_sum bx.o rfl h.b_sum (a_var (i := 3) rfl (visBy rfl))))) (a_val (e_op (o_ix bx.o.toXO (a_var (i := 1) rfl (visBy rfl)) (a_val e_int)))))))))))) rfl (.inl rfl))
      (ss_cons (st_set (i := 7) bx.o.toXO rfl (locBy rfl) (by decide) (l_op (o_ix bx.o.toXO (a_var (i := 6) rfl (visBy rfl)) (a_val (e_op (o_ix bx.o.toXO (a_val (e_lst (l_lst (es_cons (e_call (l_fn bx.o.toXO (j := 361) (ok__law_take h) (bx.room.mono (by decide)) rfl bx.tk (as_cons (a_var (i := 0) rfl (visBy rfl)) (as_cons (a_val (e_op (f_len bx.o.toXO rfl h.b_len (a_var (i := 6) rfl (visBy rfl))))) as_nil)))) (es_cons (e_op (b_sub bx.o.toXO (a_val (e_op (f_len bx.o.toXO rfl h.b_len (a_var (i := 6) rfl (visBy rfl))))) (a_val e_int))) es_nil))))) (a_val (e_call (l_fn bx.o.toXO (j := 361) (ok__law_take h) (bx.room.mono (by decide)) rfl bx.tk (as_cons (a_var (i := 0) rfl (visBy rfl)) (as_cons (a_val e_int) as_nil)))))))))) rfl (.inl rfl))
      (ss_cons (st_app (i := 3) rfl (visBy rfl) (e_var (i := 7) rfl (visBy rfl)))
      (ss_cons (st_setIx (i := 2) bx.o.toXO rfl (visBy rfl) (e_var (i := 7) rfl (visBy rfl)) (e_op (b_sub bx.o.toXO (a_val (e_op (o_ix bx.o.toXO (a_var (i := 2) rfl (visBy rfl)) (a_var (i := 7) rfl (visBy rfl))))) (a_val e_int))))
      ss_nil)))) ss_nil)
      ss_nil)))
      (ss_cons (st_if (x_lt bx.o.toXO (a_val (e_op (f_sum bx.o rfl h.b_sum (a_var (i := 3) rfl (visBy rfl))))) (a_val (e_op (o_ix bx.o.toXO (a_var (i := 1) rfl (visBy rfl)) (a_val e_int))))) (ss_cons (st_ret (l_of e_non))
      ss_nil) ss_nil)
      (ss_cons (st_ret (l_op (f_tupleX bx.o.toXO rfl h.b_tuple (a_val (e_op (f_sortedD bx.o rfl h.b_sorted (a_var (i := 3) rfl (visBy rfl))))))))
      ss_nil))))))
theorem sc__law_other_lot : FnScope ["pot", "heap", "lot", "made", "at", "sizes", "turn", "size", "many"] ["pot", "heap", "lot"] (defScope s__law_other_lot) := ⟨rfl, rfl, rfl, by decide +kernel, rfl, by decide +kernel, by decide +kernel⟩
theorem ok__law_other_lot (h : Hx K mg) : Ok P w K mg base 2 "_law_other_lot" ["pot", "heap", "lot"] g_law_other_lot_6c5d :=
  def_at ir_law_other_lot_6c5d h.d__law_other_lot sc__law_other_lot rfl rfl (fun _ _ _ _ _ _ us hl => match us, hl with | [_, _, _], _ => rfl) fun cdv A outer s H E C bx =>
      (ss_cons (st_set (i := 3) bx.o.toXO rfl (locBy rfl) (by decide) (l_op (f_list bx.o.toXO rfl h.b_list (a_var (i := 2) rfl (visBy rfl)))) rfl (.inl rfl))
      (ss_cons (st_set (i := 4) bx.o.toXO rfl (locBy rfl) (by decide) (l_fn bx.o.toXO (j := 361) (ok__law_take h) (bx.room.mono (by decide)) rfl bx.tk (as_cons (a_var (i := 0) rfl (visBy rfl)) (as_cons (a_val (e_op (f_len bx.o.toXO rfl h.b_len (a_var (i := 3) rfl (visBy rfl))))) as_nil))) rfl (.inl rfl))
      (ss_cons (st_set (i := 5) bx.o.toXO rfl (locBy rfl) (by decide) (l_op (b_add bx.o.toXO (a_val (e_comp (l_comp bx.o (own := [("size", 7), ("many", 8)]) (s_seq bx.o.toXO (e_op (o_ix bx.o.toXO (a_var (i := 1) rfl (visBy rfl)) (a_val e_int)))) (blkOk_by (by rfl)) (by decide) (fun C1 h1 s1 H1 D1 c1 l1 => (g_tup (bx.o.blk h1) (gs_cons (g_name (bx.o.blk h1).toXO (i := 7) rfl (locBy rfl)) (gs_cons (g_name (bx.o.blk h1).toXO (i := 8) rfl (locBy rfl)) gs_nil)))) (fun C1 h1 s1 H1 D1 c1 l1 => ts_nil) (fun C1 h1 s1 H1 D1 c1 l1 => (e_var (i := 7) rfl (visBy rfl)))))) (a_val (e_lst (l_lst (es_cons e_int (es_cons (e_op (o_ix bx.o.toXO (a_var (i := 1) rfl (visBy rfl)) (a_val e_int))) (es_cons (e_op (b_sub bx.o.toXO (a_val e_int) (a_val e_int))) (es_cons e_int es_nil))))))))) rfl (.inl rfl))
      (ss_cons (st_set (i := 6) bx.o.toXO rfl (locBy rfl) (by decide) (l_fn bx.o.toXO (j := 361) (ok__law_take h) (bx.room.mono (by decide)) rfl bx.tk (as_cons (a_var (i := 0) rfl (visBy rfl)) (as_cons (a_val e_int) as_nil))) rfl (.inl rfl))
      (ss_cons (st_if (x_eq bx.o.toXO (a_var (i := 6) rfl (visBy rfl)) (a_val e_int)) (ss_cons (st_popA (i := 3) rfl (visBy rfl) (e_var (i := 4) rfl (visBy rfl)))
      ss_nil) (ss_cons (st_if (x_eq bx.o.toXO (a_var (i := 6) rfl (visBy rfl)) (a_val e_int)) (ss_cons (st_set (i := 3) bx.o.toXO rfl (locBy rfl) (by decide) (l_op (f_sortedD bx.o rfl h.b_sorted (a_val (e_op (b_add bx.o.toXO (a_var (i := 3) rfl (visBy rfl)) (a_val (e_lst (l_lst (es_cons (e_op (o_ix bx.o.toXO (a_var (i := 5) rfl (visBy rfl)) (a_val (e_call (l_fn bx.o.toXO (j := 361) (ok__law_take h) (bx.room.mono (by decide)) rfl bx.tk (as_cons (a_var (i := 0) rfl (visBy rfl)) (as_cons (a_val (e_op (f_len bx.o.toXO rfl h.b_len (a_var (i := 5) rfl (visBy rfl))))) as_nil))))))) es_nil))))))))) rfl (.inl rfl))
      ss_nil) (ss_cons (st_if (x_eq bx.o.toXO (a_var (i := 6) rfl (visBy rfl)) (a_val e_int)) (ss_cons (st_set (i := 3) bx.o.toXO rfl (locBy rfl) (by decide) (l_op (f_sortedD bx.o rfl h.b_sorted (a_val (e_op (b_add bx.o.toXO (a_val (e_op (b_add bx.o.toXO (a_val (e_op (q_sl01 bx.o.toXO (a_var (i := 3) rfl (visBy rfl)) (a_var (i := 4) rfl (visBy rfl))))) (a_val (e_lst (l_lst (es_cons (e_op (o_ix bx.o.toXO (a_var (i := 5) rfl (visBy rfl)) (a_val (e_call (l_fn bx.o.toXO (j := 361) (ok__law_take h) (bx.room.mono (by decide)) rfl bx.tk (as_cons (a_var (i := 0) rfl (visBy rfl)) (as_cons (a_val (e_op (f_len bx.o.toXO rfl h.b_len (a_var (i := 5) rfl (visBy rfl))))) as_nil))))))) es_nil))))))) (a_val (e_op (q_sl10 bx.o.toXO (a_var (i := 3) rfl (visBy rfl)) (a_val (e_op (b_add bx.o.toXO (a_var (i := 4) rfl (visBy rfl)) (a_val e_int)))))))))))) rfl (.inl rfl))
      ss_nil) (ss_cons (st_if (x_eq bx.o.toXO (a_var (i := 6) rfl (visBy rfl)) (a_val e_int)) (ss_cons (st_set (i := 3) bx.o.toXO rfl (locBy rfl) (by decide) (l_op (o_rev bx.o.toXO (a_var (i := 3) rfl (visBy rfl)))) rfl (.inl rfl))
      ss_nil) (ss_cons (st_if (x_eq bx.o.toXO (a_var (i := 6) rfl (visBy rfl)) (a_val e_int)) (ss_cons (st_set (i := 3) bx.o.toXO rfl (locBy rfl) (by decide) (l_op (f_sortedD bx.o rfl h.b_sorted (a_val (e_op (b_add bx.o.toXO (a_val (e_op (b_add bx.o.toXO (a_val (e_op (q_sl01 bx.o.toXO (a_var (i := 3) rfl (visBy rfl)) (a_var (i := 4) rfl (visBy rfl))))) (a_val (e_lst (l_lst (es_cons (e_op (b_add bx.o.toXO (a_val (e_op (o_ix bx.o.toXO (a_var (i := 3) rfl (visBy rfl)) (a_var (i := 4) rfl (visBy rfl))))) (a_val (e_op (o_ix bx.o.toXO (a_val (e_lst (l_lst (es_cons e_int (es_cons (e_op (b_sub bx.o.toXO (a_val e_int) (a_val e_int))) es_nil))))) (a_val (e_call (l_fn bx.o.toXO (j := 361) (ok__law_take h) (bx.room.mono (by decide)) rfl bx.tk (as_cons (a_var (i := 0) rfl (visBy rfl)) (as_cons (a_val e_int) as_nil)))))))))) es_nil))))))) (a_val (e_op (q_sl10 bx.o.toXO (a_var (i := 3) rfl (visBy rfl)) (a_val (e_op (b_add bx.o.toXO (a_var (i := 4) rfl (visBy rfl)) (a_val e_int)))))))))))) rfl (.inl rfl))
      ss_nil) (ss_cons (st_set (i := 3) bx.o.toXO rfl (locBy rfl) (by decide) (l_op (b_add bx.o.toXO (a_val (e_op (b_mul bx.o.toXO (a_val (e_lst (l_lst (es_cons (e_op (o_ix bx.o.toXO (a_var (i := 3) rfl (visBy rfl)) (a_val e_int))) es_nil)))) (a_val (e_op (b_sub bx.o.toXO (a_val e_int) (a_val (e_op (f_len bx.o.toXO rfl h.b_len (a_var (i := 3) rfl (visBy rfl))))))))))) (a_var (i := 3) rfl (visBy rfl)))) rfl (.inl rfl))
      ss_nil))
      ss_nil))
      ss_nil))
      ss_nil))
      ss_nil))
      (ss_cons (st_ret (l_op (f_tupleX bx.o.toXO rfl h.b_tuple (a_var (i := 3) rfl (visBy rfl)))))
      ss_nil))))))
theorem sc__law_wide : FnScope ["pot", "size", "number", "turn"] ["pot", "size"] (defScope s__law_wide) := ⟨rfl, rfl, rfl, by decide +kernel, rfl, by decide +kernel, by decide +kernel⟩
theorem ok__law_wide (h : Hx K mg) : Ok P w K mg base 2 "_law_wide" ["pot", "size"] g_law_wide_88c9 :=
  def_at ir_law_wide_88c9 h.d__law_wide sc__law_wide rfl rfl (fun _ _ _ _ _ _ us hl => match us, hl with | [_, _], _ => rfl) fun cdv A outer s H E C bx =>
      (ss_cons (st_if (PW.pt (w_or (x_gt bx.o.toXO (a_val (e_op (o_ix bx.o.toXO (a_var (i := 0) rfl (visBy rfl)) (a_val e_int)))) (a_val e_int)) (w_or1 (x_lt bx.o.toXO (a_var (i := 1) rfl (visBy rfl)) (a_val (e_op (b_pow bx.o.toXO (a_val e_int) (a_val e_int)))))))) (ss_cons (st_ret (l_fn bx.o.toXO (j := 361) (ok__law_take h) (bx.room.mono (by decide)) rfl bx.tk (as_cons (a_var (i := 0) rfl (visBy rfl)) (as_cons (a_var (i := 1) rfl (visBy rfl)) as_nil))))
      ss_nil) ss_nil)
      (ss_cons (st_set (i := 2) bx.o.toXO rfl (locBy rfl) (by decide) (l_of e_int) rfl (.inl rfl))
      (ss_cons (st_for bx.o bx.po (s_rng1 (by rfl) h.b_range (e_op (b_add bx.o.toXO (a_val e_int) (a_val (e_op (b_fdiv bx.o.toXO (a_val (e_op (o_bits (a_var (i := 1) rfl (visBy rfl))))) (a_val e_int))))))) (g_name bx.o.toXO (i := 3) rfl (locBy rfl)) (by decide) (ss_cons (st_set (i := 2) bx.o.toXO rfl (locBy rfl) (by decide) (l_op (b_add bx.o.toXO (a_val (e_op (b_mul bx.o.toXO (a_var (i := 2) rfl (visBy rfl)) (a_val e_int)))) (a_val (e_call (l_fn bx.o.toXO (j := 361) (ok__law_take h) (bx.room.mono (by decide)) rfl bx.tk (as_cons (a_var (i := 0) rfl (visBy rfl)) (as_cons (a_val e_int) as_nil))))))) rfl (.inl rfl))
      ss_nil))
      (ss_cons (st_ret (l_op (b_mod bx.o.toXO (a_var (i := 2) rfl (visBy rfl)) (a_var (i := 1) rfl (visBy rfl)))))
      ss_nil))))
theorem sc_counts_taken : FnScope ["filling", "counts", "lot", "times", "own", "size"] ["filling"] (defScope s_counts_taken) := ⟨rfl, rfl, rfl, by decide +kernel, rfl, by decide +kernel, by decide +kernel⟩
theorem ok_counts_taken (h : Hx K mg) : Ok P w K mg base 2 "counts_taken" ["filling"] g_counts_taken_de42 :=
  def_at ir_counts_taken_de42 h.d_counts_taken sc_counts_taken rfl rfl (fun _ _ _ _ _ _ us hl => match us, hl with | [_], _ => rfl) fun cdv A outer s H E C bx =>
      (ss_cons (st_set (i := 1) bx.o.toXO rfl (locBy rfl) (by decide) l_dnew rfl (.inl rfl))
      (ss_cons (st_for bx.o bx.po (s_seq bx.o.toXO (e_var (i := 0) rfl (visBy rfl))) (g_tup bx.o (gs_cons (g_name bx.o.toXO (i := 2) rfl (locBy rfl)) (gs_cons (g_name bx.o.toXO (i := 3) rfl (locBy rfl)) gs_nil))) (by decide) (ss_cons (st_set (i := 4) bx.o.toXO rfl (locBy rfl) (by decide) (l_fn bx.o.toXO (j := 422) (ok_counts_of h) (bx.room.mono (by decide)) rfl bx.tk (as_cons (a_var (i := 2) rfl (visBy rfl)) as_nil)) rfl (.inl rfl))
      (ss_cons (st_forK (i := 4) bx.o bx.po rfl (visBy rfl) (by decide) (fun C1 h1 => (g_name (bx.o.to h1).toXO (i := 5) rfl (locBy rfl))) (fun C1 h1 => (ss_cons (st_setIx (i := 1) (bx.o.to h1).toXO rfl (visBy rfl) (e_var (i := 5) rfl (visBy rfl)) (e_op (b_add (bx.o.to h1).toXO (a_val (e_mth (m_dget (bx.o.to h1).toXO (a_var (i := 1) rfl (visBy rfl)) (a_var (i := 5) rfl (visBy rfl)) (a_val e_int)))) (a_val (e_op (b_mul (bx.o.to h1).toXO (a_val (e_op (o_ix (bx.o.to h1).toXO (a_var (i := 4) rfl (visBy rfl)) (a_var (i := 5) rfl (visBy rfl))))) (a_var (i := 3) rfl (visBy rfl))))))))
      ss_nil)))
      ss_nil)))
      (ss_cons (st_retV (i := 1) rfl (visBy rfl))
      ss_nil)))
theorem sc_is_size : FnScope ["thing"] ["thing"] (defScope s_is_size) := ⟨rfl, rfl, rfl, by decide +kernel, rfl, by decide +kernel, by decide +kernel⟩
theorem ok_is_size (h : Hx K mg) : Ok P w K mg base 2 "is_size" ["thing"] g_is_size_8851 :=
  def_at ir_is_size_8851 h.d_is_size sc_is_size rfl rfl (fun _ _ _ _ _ _ us hl => match us, hl with | [_], _ => rfl) fun cdv A outer s H E C bx =>
      (ss_cons (st_ret (l_of (e_and (e_call (l_fn bx.o.toXO (j := 455) (ok_is_whole h) (bx.room.mono (by decide)) rfl bx.tk (as_cons (a_var (i := 0) rfl (visBy rfl)) as_nil))) (e_one (ch bx.o.toXO (or_le bx.o.toXO.un) (or_le bx.o.toXO.un) e_int (e_var (i := 0) rfl (visBy rfl)) (e_gint (i := 1000000000000) (t := 0) rfl h.g_MOST_SIZE))))))
      ss_nil)
theorem sc_taken_from : FnScope ["heap", "counts", "left", "size"] ["heap", "counts"] (defScope s_taken_from) := ⟨rfl, rfl, rfl, by decide +kernel, rfl, by decide +kernel, by decide +kernel⟩
theorem ok_taken_from (h : Hx K mg) : Ok P w K mg base 2 "taken_from" ["heap", "counts"] g_taken_from_7a45 :=
  def_at ir_taken_from_7a45 h.d_taken_from sc_taken_from rfl rfl (fun _ _ _ _ _ _ us hl => match us, hl with | [_, _], _ => rfl) fun cdv A outer s H E C bx =>
      (ss_cons (st_set (i := 2) bx.o.toXO rfl (locBy rfl) (by decide) (l_op (f_dict bx.o rfl h.b_dict (a_val (e_op (o_ix bx.o.toXO (a_var (i := 0) rfl (visBy rfl)) (a_val e_int)))))) rfl (.inl rfl))
      (ss_cons (st_forK (i := 1) bx.o bx.po rfl (visBy rfl) (by decide) (fun C1 h1 => (g_name (bx.o.to h1).toXO (i := 3) rfl (locBy rfl))) (fun C1 h1 => (ss_cons (st_setIx (i := 2) (bx.o.to h1).toXO rfl (visBy rfl) (e_var (i := 3) rfl (visBy rfl)) (e_op (b_sub (bx.o.to h1).toXO (a_val (e_mth (m_dget (bx.o.to h1).toXO (a_var (i := 2) rfl (visBy rfl)) (a_var (i := 3) rfl (visBy rfl)) (a_val e_int)))) (a_val (e_op (o_ix (bx.o.to h1).toXO (a_var (i := 1) rfl (visBy rfl)) (a_var (i := 3) rfl (visBy rfl))))))))
      (ss_cons (st_if (x_lt (bx.o.to h1).toXO (a_val (e_op (o_ix (bx.o.to h1).toXO (a_var (i := 2) rfl (visBy rfl)) (a_var (i := 3) rfl (visBy rfl))))) (a_val e_int)) (ss_cons (st_ret (l_of e_non))
      ss_nil) ss_nil)
      ss_nil))))
      (ss_cons (st_ret (l_fn bx.o.toXO (j := 421) (ok_counted_heap h) (bx.room.mono (by decide)) rfl bx.tk (as_cons (a_val (e_op (o_ix bx.o.toXO (a_var (i := 0) rfl (visBy rfl)) (a_val e_int)))) (as_cons (a_var (i := 2) rfl (visBy rfl)) as_nil))))
      ss_nil)))
theorem sc__law_filling : FnScope ["pot", "heap", "most", "times_of", "here", "turn", "lot", "room", "times", "size"] ["pot", "heap", "most"] (defScope s__law_filling) := ⟨rfl, rfl, rfl, by decide +kernel, rfl, by decide +kernel, by decide +kernel⟩
theorem ok__law_filling (h : Hx K mg) : Ok P w K mg base 3 "_law_filling" ["pot", "heap", "most"] g_law_filling_3337 :=
  def_at ir_law_filling_3337 h.d__law_filling sc__law_filling rfl rfl (fun _ _ _ _ _ _ us hl => match us, hl with | [_, _, _], _ => rfl) fun cdv A outer s H E C bx =>
      (ss_cons (st_set (i := 3) bx.o.toXO rfl (locBy rfl) (by decide) l_dnewX rfl (.inl rfl))
      (ss_cons (st_set (i := 4) bx.o.toXO rfl (locBy rfl) (by decide) (l_of (e_var (i := 1) rfl (visBy rfl))) rfl (.inl rfl))
      (ss_cons (st_for bx.o bx.po (s_rng1 (by rfl) h.b_range (e_var (i := 2) rfl (visBy rfl))) (g_name bx.o.toXO (i := 5) rfl (locBy rfl)) (by decide) (ss_cons (st_set (i := 6) bx.o.toXO rfl (locBy rfl) (by decide) (l_fn bx.o.toXO (j := 120) (ok__law_full_lot h) (bx.room.mono (by decide)) rfl bx.tk (as_cons (a_var (i := 0) rfl (visBy rfl)) (as_cons (a_var (i := 4) rfl (visBy rfl)) as_nil))) rfl (.inl rfl))
      (ss_cons (st_if (x_isNN bx.o.toXO (a_var (i := 6) rfl (visBy rfl))) (ss_cons (st_set (i := 7) bx.o.toXO rfl (locBy rfl) (by decide) (l_op (f_minD bx.o rfl h.b_min (a_val (e_comp (l_comp bx.o (own := [("size", 9)]) (s_seq bx.o.toXO (e_var (i := 6) rfl (visBy rfl))) (blkOk_by (by rfl)) (by decide) (fun C1 h1 s1 H1 D1 c1 l1 => (g_name (bx.o.blk h1).toXO (i := 9) rfl (locBy rfl))) (fun C1 h1 s1 H1 D1 c1 l1 => ts_nil) (fun C1 h1 s1 H1 D1 c1 l1 => (e_op (b_fdiv (bx.o.blk h1).toXO (a_val (e_op (o_ix (bx.o.blk h1).toXO (a_val (e_op (f_dict (bx.o.blk h1) rfl h.b_dict (a_val (e_op (o_ix (bx.o.blk h1).toXO (a_var (i := 4) rfl (visBy rfl)) (a_val e_int))))))) (a_var (i := 9) rfl (visBy rfl))))) (a_val (e_mth (m_tcnt (bx.o.blk h1).toXO (a_var (i := 6) rfl (visBy rfl)) (a_var (i := 9) rfl (visBy rfl))))))))))))) rfl (.inl rfl))
      (ss_cons (st_set (i := 8) bx.o.toXO rfl (locBy rfl) (by decide) (l_op (o_ix bx.o.toXO (a_val (e_lst (l_lst (es_cons e_int (es_cons (e_op (b_add bx.o.toXO (a_val e_int) (a_val (e_call (l_fn bx.o.toXO (j := 396) (ok__law_wide h) (bx.room.mono (by decide)) rfl bx.tk (as_cons (a_var (i := 0) rfl (visBy rfl)) (as_cons (a_var (i := 7) rfl (visBy rfl)) as_nil))))))) (es_cons (e_var (i := 7) rfl (visBy rfl)) es_nil)))))) (a_val (e_op (b_mul bx.o.toXO (a_val (e_call (l_fn bx.o.toXO (j := 361) (ok__law_take h) (bx.room.mono (by decide)) rfl bx.tk (as_cons (a_var (i := 0) rfl (visBy rfl)) (as_cons (a_val e_int) as_nil))))) (a_val (e_op (f_int bx.o.toXO rfl h.b_int (a_val (e_op (c_lt bx.o.toXO (a_var (i := 2) rfl (visBy rfl)) (a_val e_int)))))))))))) rfl (.inl rfl))
      (ss_cons (st_setIx (i := 3) bx.o.toXO rfl (visBy rfl) (e_var (i := 6) rfl (visBy rfl)) (e_op (b_add bx.o.toXO (a_val (e_mth (m_dgetT bx.o.toXO (a_var (i := 3) rfl (visBy rfl)) (a_var (i := 6) rfl (visBy rfl)) (a_val e_int)))) (a_var (i := 8) rfl (visBy rfl)))))
      (ss_cons (st_set (i := 4) bx.o.toXO rfl (locBy rfl) (by decide) (l_fn bx.o.toXO (j := 180) (ok__law_less h) (bx.room.mono (by decide)) rfl bx.tk (as_cons (a_var (i := 4) rfl (visBy rfl)) (as_cons (a_var (i := 6) rfl (visBy rfl)) (as_cons (a_var (i := 8) rfl (visBy rfl)) as_nil)))) rfl (.inl rfl))
      ss_nil)))) ss_nil)
      ss_nil)))
      (ss_cons (st_ret (l_op (f_tupleX bx.o.toXO rfl h.b_tuple (a_val (e_comp (l_comp bx.o (own := [("lot", 6)]) (s_seq bx.o.toXO (e_op (f_sortT bx.o rfl h.b_sorted (a_var (i := 3) rfl (visBy rfl))))) (blkOk_by (by rfl)) (by decide) (fun C2 h2 s2 H2 D2 c2 l2 => (g_name (bx.o.blk h2).toXO (i := 6) rfl (locBy rfl))) (fun C2 h2 s2 H2 D2 c2 l2 => ts_nil) (fun C2 h2 s2 H2 D2 c2 l2 => (e_tup (es_cons (e_var (i := 6) rfl (visBy rfl)) (es_cons (e_op (o_ixT (bx.o.blk h2).toXO (a_var (i := 3) rfl (visBy rfl)) (a_var (i := 6) rfl (visBy rfl)))) es_nil))))))))))
      ss_nil))))
theorem sc__law_many : FnScope ["pot", "kind"] ["pot", "kind"] (defScope s__law_many) := ⟨rfl, rfl, rfl, by decide +kernel, rfl, by decide +kernel, by decide +kernel⟩
theorem ok__law_many (h : Hx K mg) : Ok P w K mg base 3 "_law_many" ["pot", "kind"] g_law_many_ce94 :=
  def_at ir_law_many_ce94 h.d__law_many sc__law_many rfl rfl (fun _ _ _ _ _ _ us hl => match us, hl with | [_, _], _ => rfl) fun cdv A outer s H E C bx =>
      (ss_cons (st_ret (l_op (o_ix bx.o.toXO (a_val (e_lst (l_lst (es_cons (e_op (b_add bx.o.toXO (a_val e_int) (a_val (e_call (l_fn bx.o.toXO (j := 361) (ok__law_take h) (bx.room.mono (by decide)) rfl bx.tk (as_cons (a_var (i := 0) rfl (visBy rfl)) (as_cons (a_val e_int) as_nil))))))) (es_cons e_int (es_cons (e_op (b_add bx.o.toXO (a_val e_int) (a_val (e_call (l_fn bx.o.toXO (j := 361) (ok__law_take h) (bx.room.mono (by decide)) rfl bx.tk (as_cons (a_var (i := 0) rfl (visBy rfl)) (as_cons (a_val e_int) as_nil))))))) (es_cons (e_op (b_add bx.o.toXO (a_val e_int) (a_val (e_call (l_fn bx.o.toXO (j := 396) (ok__law_wide h) (bx.room.mono (by decide)) rfl bx.tk (as_cons (a_var (i := 0) rfl (visBy rfl)) (as_cons (a_val (e_op (b_pow bx.o.toXO (a_val e_int) (a_val e_int)))) as_nil))))))) es_nil))))))) (a_var (i := 1) rfl (visBy rfl)))))
      ss_nil)
theorem sc__law_need : FnScope ["pot", "some"] ["pot"] (defScope s__law_need) := ⟨rfl, rfl, rfl, by decide +kernel, rfl, by decide +kernel, by decide +kernel⟩
theorem ok__law_need (h : Hx K mg) : Ok P w K mg base 3 "_law_need" ["pot"] g_law_need_2946 :=
  def_at ir_law_need_2946 h.d__law_need sc__law_need rfl rfl (fun _ _ _ _ _ _ us hl => match us, hl with | [_], _ => rfl) fun cdv A outer s H E C bx =>
      (ss_cons (st_set (i := 1) bx.o.toXO rfl (locBy rfl) (by decide) (l_lst (es_cons (e_op (b_add bx.o.toXO (a_val e_int) (a_val (e_call (l_fn bx.o.toXO (j := 361) (ok__law_take h) (bx.room.mono (by decide)) rfl bx.tk (as_cons (a_var (i := 0) rfl (visBy rfl)) (as_cons (a_val e_int) as_nil))))))) (es_cons (e_op (b_add bx.o.toXO (a_val e_int) (a_val (e_call (l_fn bx.o.toXO (j := 361) (ok__law_take h) (bx.room.mono (by decide)) rfl bx.tk (as_cons (a_var (i := 0) rfl (visBy rfl)) (as_cons (a_val e_int) as_nil))))))) (es_cons e_int (es_cons (e_op (b_add bx.o.toXO (a_val e_int) (a_val (e_call (l_fn bx.o.toXO (j := 396) (ok__law_wide h) (bx.room.mono (by decide)) rfl bx.tk (as_cons (a_var (i := 0) rfl (visBy rfl)) (as_cons (a_val (e_op (b_pow bx.o.toXO (a_val e_int) (a_val e_int)))) as_nil))))))) (es_cons (e_op (b_pow bx.o.toXO (a_val e_int) (a_val e_int))) es_nil)))))) rfl (.inl rfl))
      (ss_cons (st_ret (l_op (o_ix bx.o.toXO (a_var (i := 1) rfl (visBy rfl)) (a_val (e_call (l_fn bx.o.toXO (j := 361) (ok__law_take h) (bx.room.mono (by decide)) rfl bx.tk (as_cons (a_var (i := 0) rfl (visBy rfl)) (as_cons (a_val e_int) as_nil))))))))
      ss_nil))
theorem sc__law_size : FnScope ["pot", "need", "some"] ["pot", "need"] (defScope s__law_size) := ⟨rfl, rfl, rfl, by decide +kernel, rfl, by decide +kernel, by decide +kernel⟩
theorem ok__law_size (h : Hx K mg) : Ok P w K mg base 3 "_law_size" ["pot", "need"] g_law_size_3721 :=
  def_at ir_law_size_3721 h.d__law_size sc__law_size rfl rfl (fun _ _ _ _ _ _ us hl => match us, hl with | [_, _], _ => rfl) fun cdv A outer s H E C bx =>
      (ss_cons (st_set (i := 2) bx.o.toXO rfl (locBy rfl) (by decide) (l_lst (es_cons (e_op (b_fdiv bx.o.toXO (a_var (i := 1) rfl (visBy rfl)) (a_val e_int))) (es_cons (e_op (b_add bx.o.toXO (a_val (e_op (b_fdiv bx.o.toXO (a_var (i := 1) rfl (visBy rfl)) (a_val e_int)))) (a_val e_int))) (es_cons (e_op (b_add bx.o.toXO (a_val (e_op (b_fdiv bx.o.toXO (a_var (i := 1) rfl (visBy rfl)) (a_val e_int)))) (a_val e_int))) (es_cons (e_op (b_sub bx.o.toXO (a_var (i := 1) rfl (visBy rfl)) (a_val e_int))) (es_cons (e_var (i := 1) rfl (visBy rfl)) (es_cons (e_op (b_add bx.o.toXO (a_var (i := 1) rfl (visBy rfl)) (a_val (e_call (l_fn bx.o.toXO (j := 361) (ok__law_take h) (bx.room.mono (by decide)) rfl bx.tk (as_cons (a_var (i := 0) rfl (visBy rfl)) (as_cons (a_val e_int) as_nil))))))) (es_cons e_int (es_cons (e_op (b_fdiv bx.o.toXO (a_var (i := 1) rfl (visBy rfl)) (a_val e_int))) es_nil))))))))) rfl (.inl rfl))
      (ss_cons (st_set (i := 2) bx.o.toXO rfl (locBy rfl) (by decide) (l_op (b_add bx.o.toXO (a_var (i := 2) rfl (visBy rfl)) (a_val (e_lst (l_lst (es_cons (e_op (b_add bx.o.toXO (a_val e_int) (a_val (e_call (l_fn bx.o.toXO (j := 396) (ok__law_wide h) (bx.room.mono (by decide)) rfl bx.tk (as_cons (a_var (i := 0) rfl (visBy rfl)) (as_cons (a_var (i := 1) rfl (visBy rfl)) as_nil))))))) (es_cons (e_op (b_add bx.o.toXO (a_val e_int) (a_val (e_call (l_fn bx.o.toXO (j := 361) (ok__law_take h) (bx.room.mono (by decide)) rfl bx.tk (as_cons (a_var (i := 0) rfl (visBy rfl)) (as_cons (a_val e_int) as_nil))))))) (es_cons (e_op (b_add bx.o.toXO (a_val (e_op (b_fdiv bx.o.toXO (a_var (i := 1) rfl (visBy rfl)) (a_val e_int)))) (a_val e_int))) (es_cons (e_op (b_fdiv bx.o.toXO (a_var (i := 1) rfl (visBy rfl)) (a_val e_int))) es_nil))))))))) rfl (.inl rfl))
      (ss_cons (st_ret (l_op (f_max2 bx.o rfl h.b_max (a_val e_int) (a_val (e_op (f_min2 bx.o rfl h.b_min (a_val (e_op (b_pow bx.o.toXO (a_val e_int) (a_val e_int)))) (a_val (e_op (o_ix bx.o.toXO (a_var (i := 2) rfl (visBy rfl)) (a_val (e_call (l_fn bx.o.toXO (j := 361) (ok__law_take h) (bx.room.mono (by decide)) rfl bx.tk (as_cons (a_var (i := 0) rfl (visBy rfl)) (as_cons (a_val e_int) as_nil))))))))))))))
      ss_nil)))
theorem sc__law_spoilt : FnScope ["pot", "heap", "filling", "made", "at", "to", "lot", "times", "turn"] ["pot", "heap", "filling"] (defScope s__law_spoilt) := ⟨rfl, rfl, rfl, by decide +kernel, rfl, by decide +kernel, by decide +kernel⟩
theorem ok__law_spoilt (h : Hx K mg) : Ok P w K mg base 3 "_law_spoilt" ["pot", "heap", "filling"] g_law_spoilt_26e7 :=
  def_at ir_law_spoilt_26e7 h.d__law_spoilt sc__law_spoilt rfl rfl (fun _ _ _ _ _ _ us hl => match us, hl with | [_, _, _], _ => rfl) fun cdv A outer s H E C bx =>
      (ss_cons (st_set (i := 3) bx.o.toXO rfl (locBy rfl) (by decide) (l_op (f_list bx.o.toXO rfl h.b_list (a_var (i := 2) rfl (visBy rfl)))) rfl (.inl rfl))
      (ss_cons (st_if (x_eq bx.o.toXO (a_val (e_op (f_len bx.o.toXO rfl h.b_len (a_var (i := 3) rfl (visBy rfl))))) (a_val e_int)) (ss_cons (st_ret (l_op (o_ix bx.o.toXO (a_val (e_lst (l_lst (es_cons (e_xtup (es_cons (e_tup (es_cons (e_xtup (es_cons (e_op (o_ix bx.o.toXO (a_var (i := 1) rfl (visBy rfl)) (a_val e_int))) es_nil)) (es_cons e_int es_nil))) es_nil)) (es_cons (e_xtup (es_cons (e_tup (es_cons (e_xtup es_nil) (es_cons e_int es_nil))) es_nil)) (es_cons (e_xtup (es_cons (e_tup (es_cons (e_xtup (es_cons e_int es_nil)) (es_cons e_int es_nil))) es_nil)) (es_cons (e_xtup (es_cons (e_tup (es_cons (e_xtup (es_cons (e_op (o_ix bx.o.toXO (a_var (i := 1) rfl (visBy rfl)) (a_val e_int))) es_nil)) (es_cons (e_op (o_neg bx.o.toXO (a_val e_int))) es_nil))) es_nil)) es_nil))))))) (a_val (e_call (l_fn bx.o.toXO (j := 361) (ok__law_take h) (bx.room.mono (by decide)) rfl bx.tk (as_cons (a_var (i := 0) rfl (visBy rfl)) (as_cons (a_val e_int) as_nil))))))))
      ss_nil) ss_nil)
      (ss_cons (st_set (i := 4) bx.o.toXO rfl (locBy rfl) (by decide) (l_fn bx.o.toXO (j := 361) (ok__law_take h) (bx.room.mono (by decide)) rfl bx.tk (as_cons (a_var (i := 0) rfl (visBy rfl)) (as_cons (a_val (e_op (f_len bx.o.toXO rfl h.b_len (a_var (i := 3) rfl (visBy rfl))))) as_nil))) rfl (.inl rfl))
      (ss_cons (st_set (i := 5) bx.o.toXO rfl (locBy rfl) (by decide) (l_fn bx.o.toXO (j := 361) (ok__law_take h) (bx.room.mono (by decide)) rfl bx.tk (as_cons (a_var (i := 0) rfl (visBy rfl)) (as_cons (a_val (e_op (f_len bx.o.toXO rfl h.b_len (a_var (i := 3) rfl (visBy rfl))))) as_nil))) rfl (.inl rfl))
      (ss_cons (st_unp (by decide) (e_op (o_ix bx.o.toXO (a_var (i := 3) rfl (visBy rfl)) (a_var (i := 4) rfl (visBy rfl)))) (g_tup bx.o (gs_cons (g_name bx.o.toXO (i := 6) rfl (locBy rfl)) (gs_cons (g_name bx.o.toXO (i := 7) rfl (locBy rfl)) gs_nil))))
      (ss_cons (st_set (i := 8) bx.o.toXO rfl (locBy rfl) (by decide) (l_fn bx.o.toXO (j := 361) (ok__law_take h) (bx.room.mono (by decide)) rfl bx.tk (as_cons (a_var (i := 0) rfl (visBy rfl)) (as_cons (a_val e_int) as_nil))) rfl (.inl rfl))
      (ss_cons (st_if (x_lt bx.o.toXO (a_var (i := 8) rfl (visBy rfl)) (a_val e_int)) (ss_cons (st_setIx (i := 3) bx.o.toXO rfl (visBy rfl) (e_var (i := 4) rfl (visBy rfl)) (e_tup (es_cons (e_var (i := 6) rfl (visBy rfl)) (es_cons (e_op (o_ix bx.o.toXO (a_val (e_lst (l_lst (es_cons (e_op (b_add bx.o.toXO (a_var (i := 7) rfl (visBy rfl)) (a_val e_int))) (es_cons (e_op (b_sub bx.o.toXO (a_var (i := 7) rfl (visBy rfl)) (a_val e_int))) (es_cons e_int (es_cons (e_op (b_sub bx.o.toXO (a_val e_int) (a_var (i := 7) rfl (visBy rfl)))) (es_cons (e_op (b_add bx.o.toXO (a_var (i := 7) rfl (visBy rfl)) (a_val (e_op (b_pow bx.o.toXO (a_val e_int) (a_val e_int)))))) es_nil)))))))) (a_val (e_call (l_fn bx.o.toXO (j := 361) (ok__law_take h) (bx.room.mono (by decide)) rfl bx.tk (as_cons (a_var (i := 0) rfl (visBy rfl)) (as_cons (a_val e_int) as_nil))))))) es_nil))))
      ss_nil) (ss_cons (st_if (x_eq bx.o.toXO (a_var (i := 8) rfl (visBy rfl)) (a_val e_int)) (ss_cons (st_unp (by decide) (e_tup (es_cons (e_op (o_ix bx.o.toXO (a_var (i := 3) rfl (visBy rfl)) (a_var (i := 5) rfl (visBy rfl)))) (es_cons (e_op (o_ix bx.o.toXO (a_var (i := 3) rfl (visBy rfl)) (a_var (i := 4) rfl (visBy rfl)))) es_nil))) (g_tup bx.o (gs_cons (g_atV bx.o.toXO (i := 3) rfl (visBy rfl) (j := 4) rfl (visBy rfl)) (gs_cons (g_atV bx.o.toXO (i := 3) rfl (visBy rfl) (j := 5) rfl (visBy rfl)) gs_nil))))
      ss_nil) (ss_cons (st_if (x_eq bx.o.toXO (a_var (i := 8) rfl (visBy rfl)) (a_val e_int)) (ss_cons (st_insA (i := 3) rfl (visBy rfl) (e_var (i := 4) rfl (visBy rfl)) (e_op (o_ix bx.o.toXO (a_val (e_lst (l_lst (es_cons (e_op (o_ix bx.o.toXO (a_var (i := 3) rfl (visBy rfl)) (a_var (i := 5) rfl (visBy rfl)))) (es_cons (e_tup (es_cons (e_var (i := 6) rfl (visBy rfl)) (es_cons (e_op (f_max2 bx.o rfl h.b_max (a_val e_int) (a_val (e_op (b_sub bx.o.toXO (a_var (i := 7) rfl (visBy rfl)) (a_val e_int)))))) es_nil))) es_nil))))) (a_val (e_call (l_fn bx.o.toXO (j := 361) (ok__law_take h) (bx.room.mono (by decide)) rfl bx.tk (as_cons (a_var (i := 0) rfl (visBy rfl)) (as_cons (a_val e_int) as_nil))))))))
      ss_nil) (ss_cons (st_if (x_eq bx.o.toXO (a_var (i := 8) rfl (visBy rfl)) (a_val e_int)) (ss_cons (st_set (i := 3) bx.o.toXO rfl (locBy rfl) (by decide) (l_op (b_add bx.o.toXO (a_var (i := 3) rfl (visBy rfl)) (a_val (e_lst (l_lst (es_cons (e_tup (es_cons (e_call (l_fn bx.o.toXO (j := 247) (ok__law_other_lot h) (bx.room.mono (by decide)) rfl bx.tk (as_cons (a_var (i := 0) rfl (visBy rfl)) (as_cons (a_var (i := 1) rfl (visBy rfl)) (as_cons (a_var (i := 6) rfl (visBy rfl)) as_nil))))) (es_cons e_int es_nil))) es_nil)))))) rfl (.inl rfl))
      ss_nil) (ss_cons (st_if (x_eq bx.o.toXO (a_var (i := 8) rfl (visBy rfl)) (a_val e_int)) (ss_cons (st_set (i := 3) bx.o.toXO rfl (locBy rfl) (by decide) (l_op (f_sortedD bx.o rfl h.b_sorted (a_val (e_op (b_add bx.o.toXO (a_val (e_op (b_add bx.o.toXO (a_val (e_op (q_sl01 bx.o.toXO (a_var (i := 3) rfl (visBy rfl)) (a_var (i := 4) rfl (visBy rfl))))) (a_val (e_lst (l_lst (es_cons (e_tup (es_cons (e_call (l_fn bx.o.toXO (j := 247) (ok__law_other_lot h) (bx.room.mono (by decide)) rfl bx.tk (as_cons (a_var (i := 0) rfl (visBy rfl)) (as_cons (a_var (i := 1) rfl (visBy rfl)) (as_cons (a_var (i := 6) rfl (visBy rfl)) as_nil))))) (es_cons (e_var (i := 7) rfl (visBy rfl)) es_nil))) es_nil))))))) (a_val (e_op (q_sl10 bx.o.toXO (a_var (i := 3) rfl (visBy rfl)) (a_val (e_op (b_add bx.o.toXO (a_var (i := 4) rfl (visBy rfl)) (a_val e_int)))))))))))) rfl (.inl rfl))
      ss_nil) (ss_cons (st_setIx (i := 3) bx.o.toXO rfl (visBy rfl) (e_var (i := 4) rfl (visBy rfl)) (e_tup (es_cons (e_call (l_fn bx.o.toXO (j := 247) (ok__law_other_lot h) (bx.room.mono (by decide)) rfl bx.tk (as_cons (a_var (i := 0) rfl (visBy rfl)) (as_cons (a_var (i := 1) rfl (visBy rfl)) (as_cons (a_var (i := 6) rfl (visBy rfl)) as_nil))))) (es_cons (e_var (i := 7) rfl (visBy rfl)) es_nil))))
      ss_nil))
      ss_nil))
      ss_nil))
      ss_nil))
      ss_nil))
      (ss_cons (st_ret (l_op (f_tuple bx.o.toXO rfl h.b_tuple (a_var (i := 3) rfl (visBy rfl)))))
      ss_nil))))))))
theorem sc_is_lot : FnScope ["thing", "size"] ["thing"] (defScope s_is_lot) := ⟨rfl, rfl, rfl, by decide +kernel, rfl, by decide +kernel, by decide +kernel⟩
theorem ok_is_lot (h : Hx K mg) : Ok P w K mg base 3 "is_lot" ["thing"] g_is_lot_0224 :=
  def_at ir_is_lot_0224 h.d_is_lot sc_is_lot rfl rfl (fun _ _ _ _ _ _ us hl => match us, hl with | [_], _ => rfl) fun cdv A outer s H E C bx =>
      (ss_cons (st_if (PW.pt (w_or (t_not (t_val (e_op (o_isT1 rfl h.b_isinstance bx.o.toXO (a_var (i := 0) rfl (visBy rfl)) (ty_tuple rfl h.b_tuple))))) (w_or1 (t_not (xch bx.o.toXO (or_le bx.o.toXO.un) (or_le bx.o.toXO.un) e_int (e_op (f_len bx.o.toXO rfl h.b_len (a_var (i := 0) rfl (visBy rfl)))) (e_gint (i := 100) (t := 0) rfl h.g_MOST_IN_LOT)))))) (ss_cons (st_ret (l_of e_bl))
      ss_nil) ss_nil)
      (ss_cons (st_ret (l_of (e_and (e_op (f_all bx.o rfl h.b_all (a_val (e_comp (l_comp bx.o (own := [("size", 1)]) (s_seq bx.o.toXO (e_var (i := 0) rfl (visBy rfl))) (blkOk_by (by rfl)) (by decide) (fun C1 h1 s1 H1 D1 c1 l1 => (g_name (bx.o.blk h1).toXO (i := 1) rfl (locBy rfl))) (fun C1 h1 s1 H1 D1 c1 l1 => ts_nil) (fun C1 h1 s1 H1 D1 c1 l1 => (e_call (l_fn (bx.o.blk h1).toXO (j := 453) (ok_is_size h) (bx.room.mono (by decide)) rfl Br.takes0 (as_cons (a_var (i := 1) rfl (visBy rfl)) as_nil))))))))) (e_one (e_op (c_eq bx.o.toXO (a_val (e_op (f_list bx.o.toXO rfl h.b_list (a_var (i := 0) rfl (visBy rfl))))) (a_val (e_op (f_sortedD bx.o rfl h.b_sorted (a_var (i := 0) rfl (visBy rfl)))))))))))
      ss_nil))
theorem sc__law_heap : FnScope ["pot", "most", "need", "kind", "counts", "turn", "size"] ["pot", "most"] (defScope s__law_heap) := ⟨rfl, rfl, rfl, by decide +kernel, rfl, by decide +kernel, by decide +kernel⟩
theorem ok__law_heap (h : Hx K mg) : Ok P w K mg base 4 "_law_heap" ["pot", "most"] g_law_heap_f563 :=
  def_at ir_law_heap_f563 h.d__law_heap sc__law_heap rfl rfl (fun _ _ _ _ _ _ us hl => match us, hl with | [_, _], _ => rfl) fun cdv A outer s H E C bx =>
      (ss_cons (st_set (i := 2) bx.o.toXO rfl (locBy rfl) (by decide) (l_fn bx.o.toXO (j := 224) (ok__law_need h) (bx.room.mono (by decide)) rfl bx.tk (as_cons (a_var (i := 0) rfl (visBy rfl)) as_nil)) rfl (.inl rfl))
      (ss_cons (st_set (i := 3) bx.o.toXO rfl (locBy rfl) (by decide) (l_fn bx.o.toXO (j := 361) (ok__law_take h) (bx.room.mono (by decide)) rfl bx.tk (as_cons (a_var (i := 0) rfl (visBy rfl)) (as_cons (a_val e_int) as_nil))) rfl (.inl rfl))
      (ss_cons (st_set (i := 4) bx.o.toXO rfl (locBy rfl) (by decide) l_dnew rfl (.inl rfl))
      (ss_cons (st_for bx.o bx.po (s_rng1 (by rfl) h.b_range (e_call (l_fn bx.o.toXO (j := 361) (ok__law_take h) (bx.room.mono (by decide)) rfl bx.tk (as_cons (a_var (i := 0) rfl (visBy rfl)) (as_cons (a_val (e_op (b_add bx.o.toXO (a_var (i := 1) rfl (visBy rfl)) (a_val e_int)))) as_nil))))) (g_name bx.o.toXO (i := 5) rfl (locBy rfl)) (by decide) (ss_cons (st_setIx (i := 4) bx.o.toXO rfl (visBy rfl) (e_call (l_fn bx.o.toXO (j := 328) (ok__law_size h) (bx.room.mono (by decide)) rfl bx.tk (as_cons (a_var (i := 0) rfl (visBy rfl)) (as_cons (a_var (i := 2) rfl (visBy rfl)) as_nil)))) (e_call (l_fn bx.o.toXO (j := 204) (ok__law_many h) (bx.room.mono (by decide)) rfl bx.tk (as_cons (a_var (i := 0) rfl (visBy rfl)) (as_cons (a_var (i := 3) rfl (visBy rfl)) as_nil)))))
      ss_nil))
      (ss_cons (st_ret (l_of (e_tup (es_cons (e_var (i := 2) rfl (visBy rfl)) (es_cons (e_op (f_tupleX bx.o.toXO rfl h.b_tuple (a_val (e_comp (l_comp bx.o (own := [("size", 6)]) (s_seq bx.o.toXO (e_op (f_sortedD bx.o rfl h.b_sorted (a_var (i := 4) rfl (visBy rfl))))) (blkOk_by (by rfl)) (by decide) (fun C1 h1 s1 H1 D1 c1 l1 => (g_name (bx.o.blk h1).toXO (i := 6) rfl (locBy rfl))) (fun C1 h1 s1 H1 D1 c1 l1 => ts_nil) (fun C1 h1 s1 H1 D1 c1 l1 => (e_tup (es_cons (e_var (i := 6) rfl (visBy rfl)) (es_cons (e_op (o_ix (bx.o.blk h1).toXO (a_var (i := 4) rfl (visBy rfl)) (a_var (i := 6) rfl (visBy rfl)))) es_nil))))))))) es_nil)))))
      ss_nil)))))
theorem sc__law_small_heap : FnScope ["pot", "most", "need", "kind", "counts", "turn", "size"] ["pot", "most"] (defScope s__law_small_heap) := ⟨rfl, rfl, rfl, by decide +kernel, rfl, by decide +kernel, by decide +kernel⟩
theorem ok__law_small_heap (h : Hx K mg) : Ok P w K mg base 4 "_law_small_heap" ["pot", "most"] g_law_small_heap_5a72 :=
  def_at ir_law_small_heap_5a72 h.d__law_small_heap sc__law_small_heap rfl rfl (fun _ _ _ _ _ _ us hl => match us, hl with | [_, _], _ => rfl) fun cdv A outer s H E C bx =>
      (ss_cons (st_set (i := 2) bx.o.toXO rfl (locBy rfl) (by decide) (l_fn bx.o.toXO (j := 224) (ok__law_need h) (bx.room.mono (by decide)) rfl bx.tk (as_cons (a_var (i := 0) rfl (visBy rfl)) as_nil)) rfl (.inl rfl))
      (ss_cons (st_set (i := 3) bx.o.toXO rfl (locBy rfl) (by decide) (l_fn bx.o.toXO (j := 361) (ok__law_take h) (bx.room.mono (by decide)) rfl bx.tk (as_cons (a_var (i := 0) rfl (visBy rfl)) (as_cons (a_val e_int) as_nil))) rfl (.inl rfl))
      (ss_cons (st_set (i := 4) bx.o.toXO rfl (locBy rfl) (by decide) l_dnew rfl (.inl rfl))
      (ss_cons (st_for bx.o bx.po (s_rng1 (by rfl) h.b_range (e_call (l_fn bx.o.toXO (j := 361) (ok__law_take h) (bx.room.mono (by decide)) rfl bx.tk (as_cons (a_var (i := 0) rfl (visBy rfl)) (as_cons (a_val (e_op (b_add bx.o.toXO (a_var (i := 1) rfl (visBy rfl)) (a_val e_int)))) as_nil))))) (g_name bx.o.toXO (i := 5) rfl (locBy rfl)) (by decide) (ss_cons (st_set (i := 6) bx.o.toXO rfl (locBy rfl) (by decide) (l_op (f_max2 bx.o rfl h.b_max (a_val (e_call (l_fn bx.o.toXO (j := 328) (ok__law_size h) (bx.room.mono (by decide)) rfl bx.tk (as_cons (a_var (i := 0) rfl (visBy rfl)) (as_cons (a_var (i := 2) rfl (visBy rfl)) as_nil))))) (a_val (e_op (b_fdiv bx.o.toXO (a_val (e_op (b_fdiv bx.o.toXO (a_val (e_op (b_add bx.o.toXO (a_var (i := 2) rfl (visBy rfl)) (a_val e_int)))) (a_val (e_op (o_ix bx.o.toXO (a_val (e_lst (l_lst (es_cons e_int (es_cons e_int (es_cons e_int (es_cons e_int es_nil))))))) (a_val (e_call (l_fn bx.o.toXO (j := 361) (ok__law_take h) (bx.room.mono (by decide)) rfl bx.tk (as_cons (a_var (i := 0) rfl (visBy rfl)) (as_cons (a_val e_int) as_nil))))))))))) (a_val e_int)))))) rfl (.inl rfl))
      (ss_cons (st_setIx (i := 4) bx.o.toXO rfl (visBy rfl) (e_op (f_max2 bx.o rfl h.b_max (a_val e_int) (a_var (i := 6) rfl (visBy rfl)))) (e_call (l_fn bx.o.toXO (j := 204) (ok__law_many h) (bx.room.mono (by decide)) rfl bx.tk (as_cons (a_var (i := 0) rfl (visBy rfl)) (as_cons (a_var (i := 3) rfl (visBy rfl)) as_nil)))))
      ss_nil)))
      (ss_cons (st_ret (l_of (e_tup (es_cons (e_var (i := 2) rfl (visBy rfl)) (es_cons (e_op (f_tupleX bx.o.toXO rfl h.b_tuple (a_val (e_comp (l_comp bx.o (own := [("size", 6)]) (s_seq bx.o.toXO (e_op (f_sortedD bx.o rfl h.b_sorted (a_var (i := 4) rfl (visBy rfl))))) (blkOk_by (by rfl)) (by decide) (fun C1 h1 s1 H1 D1 c1 l1 => (g_name (bx.o.blk h1).toXO (i := 6) rfl (locBy rfl))) (fun C1 h1 s1 H1 D1 c1 l1 => ts_nil) (fun C1 h1 s1 H1 D1 c1 l1 => (e_tup (es_cons (e_var (i := 6) rfl (visBy rfl)) (es_cons (e_op (o_ix (bx.o.blk h1).toXO (a_var (i := 4) rfl (visBy rfl)) (a_var (i := 6) rfl (visBy rfl)))) es_nil))))))))) es_nil)))))
      ss_nil)))))
theorem sc_filling_holds : FnScope ["heap", "filling", "lot", "times", "at"] ["heap", "filling"] (defScope s_filling_holds) := ⟨rfl, rfl, rfl, by decide +kernel, rfl, by decide +kernel, by decide +kernel⟩
theorem ok_filling_holds (h : Hx K mg) : Ok P w K mg base 4 "filling_holds" ["heap", "filling"] g_filling_holds_0f56 :=
  def_at ir_filling_holds_0f56 h.d_filling_holds sc_filling_holds rfl rfl (fun _ _ _ _ _ _ us hl => match us, hl with | [_, _], _ => rfl) fun cdv A outer s H E C bx =>
      (ss_cons (st_for bx.o bx.po (s_seq bx.o.toXO (e_var (i := 1) rfl (visBy rfl))) (g_tup bx.o (gs_cons (g_name bx.o.toXO (i := 2) rfl (locBy rfl)) (gs_cons (g_name bx.o.toXO (i := 3) rfl (locBy rfl)) gs_nil))) (by decide) (ss_cons (st_if (PW.pt (w_or (t_not (t_val (e_call (l_fn bx.o.toXO (j := 451) (ok_is_lot h) (bx.room.mono (by decide)) rfl bx.tk (as_cons (a_var (i := 2) rfl (visBy rfl)) as_nil))))) (w_or (t_not (t_val (e_call (l_fn bx.o.toXO (j := 445) (ok_is_full h) (bx.room.mono (by decide)) rfl bx.tk (as_cons (a_val (e_op (o_ix bx.o.toXO (a_var (i := 0) rfl (visBy rfl)) (a_val e_int)))) (as_cons (a_var (i := 2) rfl (visBy rfl)) as_nil)))))) (w_or1 (x_lt bx.o.toXO (a_var (i := 3) rfl (visBy rfl)) (a_val e_int)))))) (ss_cons (st_ret (l_of e_bl))
      ss_nil) ss_nil)
      ss_nil))
      (ss_cons (st_if (t_not (t_val (e_op (f_all bx.o rfl h.b_all (a_val (e_comp (l_comp bx.o (own := [("at", 4)]) (s_rng2 (by rfl) h.b_range e_int (e_op (f_len bx.o.toXO rfl h.b_len (a_var (i := 1) rfl (visBy rfl))))) (blkOk_by (by rfl)) (by decide) (fun C1 h1 s1 H1 D1 c1 l1 => (g_name (bx.o.blk h1).toXO (i := 4) rfl (locBy rfl))) (fun C1 h1 s1 H1 D1 c1 l1 => ts_nil) (fun C1 h1 s1 H1 D1 c1 l1 => (e_op (c_lt (bx.o.blk h1).toXO (a_val (e_op (o_ix (bx.o.blk h1).toXO (a_val (e_op (o_ix (bx.o.blk h1).toXO (a_var (i := 1) rfl (visBy rfl)) (a_val (e_op (b_sub (bx.o.blk h1).toXO (a_var (i := 4) rfl (visBy rfl)) (a_val e_int))))))) (a_val e_int)))) (a_val (e_op (o_ix (bx.o.blk h1).toXO (a_val (e_op (o_ix (bx.o.blk h1).toXO (a_var (i := 1) rfl (visBy rfl)) (a_var (i := 4) rfl (visBy rfl))))) (a_val e_int)))))))))))))) (ss_cons (st_ret (l_of e_bl))
      ss_nil) ss_nil)
      (ss_cons (st_ret (l_op (c_isNN bx.o.toXO (a_val (e_callT (l_fnT bx.o.toXO (j := 621) (ok_taken_from h) (bx.room.mono (by decide)) rfl bx.tk (m_cons (a_var (i := 0) rfl (visBy rfl)) (m_nil (l_fn bx.o.toXO (j := 423) (ok_counts_taken h) (bx.room.mono (by decide)) rfl bx.tk (as_cons (a_var (i := 1) rfl (visBy rfl)) as_nil)) (fun C2 h2 => as_nil)))))))))
      ss_nil)))
theorem sc__law_cases : FnScope ["pot", "found", "heap", "need", "size"] ["pot"] (defScope s__law_cases) := ⟨rfl, rfl, rfl, by decide +kernel, rfl, by decide +kernel, by decide +kernel⟩
theorem ok__law_cases (h : Hx K mg) : Ok P w K mg base 5 "_law_cases" ["pot"] g_law_cases_0759 :=
  def_at ir_law_cases_0759 h.d__law_cases sc__law_cases rfl rfl (fun _ _ _ _ _ _ us hl => match us, hl with | [_], _ => rfl) fun cdv A outer s H E C bx =>
      (ss_cons (st_set (i := 1) bx.o.toXO rfl (locBy rfl) (by decide) (l_lst es_nil) rfl (.inl rfl))
      (ss_cons (st_for bx.o bx.po (s_seq bx.o.toXO (e_lst (l_lst (es_cons (e_call (l_fn bx.o.toXO (j := 342) (ok__law_small_heap h) (bx.room.mono (by decide)) rfl bx.tk (as_cons (a_var (i := 0) rfl (visBy rfl)) (as_cons (a_val e_int) as_nil)))) (es_cons (e_call (l_fn bx.o.toXO (j := 140) (ok__law_heap h) (bx.room.mono (by decide)) rfl bx.tk (as_cons (a_var (i := 0) rfl (visBy rfl)) (as_cons (a_val e_int) as_nil)))) es_nil))))) (g_name bx.o.toXO (i := 2) rfl (locBy rfl)) (by decide) (ss_cons (st_app (i := 1) rfl (visBy rfl) (e_tup (es_cons (e_var (i := 2) rfl (visBy rfl)) (es_cons (e_call (l_fn bx.o.toXO (j := 101) (ok__law_filling h) (bx.room.mono (by decide)) rfl bx.tk (as_cons (a_var (i := 0) rfl (visBy rfl)) (as_cons (a_var (i := 2) rfl (visBy rfl)) (as_cons (a_val (e_op (b_add bx.o.toXO (a_val e_int) (a_val (e_call (l_fn bx.o.toXO (j := 361) (ok__law_take h) (bx.room.mono (by decide)) rfl bx.tk (as_cons (a_var (i := 0) rfl (visBy rfl)) (as_cons (a_val e_int) as_nil)))))))) as_nil))))) es_nil))))
      ss_nil))
      (ss_cons (st_if (x_eq bx.o.toXO (a_val (e_call (l_fn bx.o.toXO (j := 361) (ok__law_take h) (bx.room.mono (by decide)) rfl bx.tk (as_cons (a_var (i := 0) rfl (visBy rfl)) (as_cons (a_val e_int) as_nil))))) (a_val e_int)) (ss_cons (st_set (i := 3) bx.o.toXO rfl (locBy rfl) (by decide) (l_op (b_add bx.o.toXO (a_val e_int) (a_val (e_call (l_fn bx.o.toXO (j := 361) (ok__law_take h) (bx.room.mono (by decide)) rfl bx.tk (as_cons (a_var (i := 0) rfl (visBy rfl)) (as_cons (a_val e_int) as_nil))))))) rfl (.inl rfl))
      (ss_cons (st_set (i := 2) bx.o.toXO rfl (locBy rfl) (by decide) (l_of (e_tup (es_cons (e_var (i := 3) rfl (visBy rfl)) (es_cons (e_op (f_tupleX bx.o.toXO rfl h.b_tuple (a_val (e_comp (l_comp bx.o (own := [("size", 4)]) (s_rng1 (by rfl) h.b_range e_int) (blkOk_by (by rfl)) (by decide) (fun C1 h1 s1 H1 D1 c1 l1 => (g_name (bx.o.blk h1).toXO (i := 4) rfl (locBy rfl))) (fun C1 h1 s1 H1 D1 c1 l1 => ts_nil) (fun C1 h1 s1 H1 D1 c1 l1 => (e_tup (es_cons (e_op (b_add (bx.o.blk h1).toXO (a_val e_int) (a_val (e_op (b_mul (bx.o.blk h1).toXO (a_var (i := 4) rfl (visBy rfl)) (a_val e_int)))))) (es_cons (e_op (b_pow (bx.o.blk h1).toXO (a_val e_int) (a_val e_int))) es_nil))))))))) es_nil)))) rfl (.inl rfl))
      (ss_cons (st_app (i := 1) rfl (visBy rfl) (e_tup (es_cons (e_var (i := 2) rfl (visBy rfl)) (es_cons (e_call (l_fn bx.o.toXO (j := 101) (ok__law_filling h) (bx.room.mono (by decide)) rfl bx.tk (as_cons (a_var (i := 0) rfl (visBy rfl)) (as_cons (a_var (i := 2) rfl (visBy rfl)) (as_cons (a_val e_int) as_nil))))) es_nil))))
      ss_nil))) ss_nil)
      (ss_cons (st_retV (i := 1) rfl (visBy rfl))
      ss_nil))))
theorem sc_law : FnScope ["script", "cell", "pot", "heap", "filling", "some", "one", "due", "kept", "found", "turn"] ["script"] (defScope s_law) := ⟨rfl, rfl, rfl, by decide +kernel, rfl, by decide +kernel, by decide +kernel⟩
theorem ok_law (h : Hx K mg) : OkA P w K mg base callerA "law" ["script"] g_law_7f4e :=
  def_atA (k := 5) ir_law_7f4e h.d_law ⟨rfl, by decide, by decide⟩ rfl sc_law rfl rfl (fun _ _ _ _ _ _ us hl => match us, hl with | [_], _ => rfl) fun cdv outer s H E C bx gd =>
      (ss_cons (st_for bx.o bx.po (s_seq bx.o.toXO (e_call (l_fn bx.o.toXO (j := 115) (ok__law_folded h) (bx.room.mono (by decide)) rfl bx.tk (as_cons (a_var (i := 0) rfl (visBy rfl)) (as_cons (a_val e_int) as_nil))))) (g_name bx.o.toXO (i := 1) rfl (locBy rfl)) (by decide) (ss_cons (st_set (i := 2) bx.o.toXO rfl (locBy rfl) (by decide) (l_fn bx.o.toXO (j := 19) (ok__law_begun h) (bx.room.mono (by decide)) rfl bx.tk (as_cons (a_var (i := 1) rfl (visBy rfl)) as_nil)) rfl (.inl rfl))
      (ss_cons (st_for bx.o bx.po (s_seq bx.o.toXO (e_call (l_fn bx.o.toXO (j := 42) (ok__law_cases h) (bx.room.mono (by decide)) rfl bx.tk (as_cons (a_var (i := 2) rfl (visBy rfl)) as_nil)))) (g_tup bx.o (gs_cons (g_name bx.o.toXO (i := 3) rfl (locBy rfl)) (gs_cons (g_name bx.o.toXO (i := 4) rfl (locBy rfl)) gs_nil))) (by decide) (ss_cons (st_set (i := 5) bx.o.toXO rfl (locBy rfl) (by decide) (l_op (b_add bx.o.toXO (a_val (e_lst (l_lst (es_cons (e_var (i := 4) rfl (visBy rfl)) (es_cons (e_tup es_nil) es_nil))))) (a_val (e_comp (l_comp bx.o (own := [("turn", 10)]) (s_rng1 (by rfl) h.b_range e_int) (blkOk_by (by rfl)) (by decide) (fun C1 h1 s1 H1 D1 c1 l1 => (g_name (bx.o.blk h1).toXO (i := 10) rfl (locBy rfl))) (fun C1 h1 s1 H1 D1 c1 l1 => ts_nil) (fun C1 h1 s1 H1 D1 c1 l1 => (e_call (l_fn (bx.o.blk h1).toXO (j := 345) (ok__law_spoilt h) (bx.room.mono (by decide)) rfl Br.takes0 (as_cons (a_var (i := 2) rfl (visBy rfl)) (as_cons (a_var (i := 3) rfl (visBy rfl)) (as_cons (a_var (i := 4) rfl (visBy rfl)) as_nil))))))))))) rfl (.inl rfl))
      (ss_cons (st_for bx.o bx.po (s_seq bx.o.toXO (e_var (i := 5) rfl (visBy rfl))) (g_name bx.o.toXO (i := 6) rfl (locBy rfl)) (by decide) (ss_cons (st_set (i := 7) bx.o.toXO rfl (locBy rfl) (by decide) (l_fn bx.o.toXO (j := 81) (ok__law_due h) (bx.room.mono (by decide)) rfl bx.tk (as_cons (a_var (i := 3) rfl (visBy rfl)) (as_cons (a_var (i := 6) rfl (visBy rfl)) as_nil))) rfl (.inl rfl))
      (ss_cons (st_set (i := 8) bx.o.toXO rfl (locBy rfl) (by decide) (l_op (f_strD bx.o gd rfl h.b_str (a_var (i := 6) rfl (visBy rfl)))) rfl (.inl rfl))
      (ss_cons (st_set (i := 9) bx.o.toXO rfl (locBy rfl) (by decide) (l_fn bx.o.toXO (j := 428) (ok_filling_holds h) (bx.room.mono (by decide)) rfl bx.tk (as_cons (a_var (i := 3) rfl (visBy rfl)) (as_cons (a_var (i := 6) rfl (visBy rfl)) as_nil))) rfl (.inl rfl))
      (ss_cons (st_if (PW.pt (w_or (t_not (t_val (e_op (o_isT1 rfl h.b_isinstance bx.o.toXO (a_var (i := 9) rfl (visBy rfl)) (ty_bool rfl h.b_bool))))) (w_or (x_ne bx.o.toXO (a_var (i := 9) rfl (visBy rfl)) (a_var (i := 7) rfl (visBy rfl))) (w_or1 (x_ne bx.o.toXO (a_val (e_op (f_strD bx.o gd rfl h.b_str (a_var (i := 6) rfl (visBy rfl))))) (a_var (i := 8) rfl (visBy rfl))))))) (ss_cons (st_ret (l_of e_bl))
      ss_nil) ss_nil)
      ss_nil)))))
      (ss_cons (st_if (x_isNB bx.o.toXO (a_val (e_call (l_fn bx.o.toXO (j := 428) (ok_filling_holds h) (bx.room.mono (by decide)) rfl bx.tk (as_cons (a_var (i := 3) rfl (visBy rfl)) (as_cons (a_var (i := 4) rfl (visBy rfl)) as_nil)))))) (ss_cons (st_ret (l_of e_bl))
      ss_nil) ss_nil)
      ss_nil))))
      ss_nil)))
      (ss_cons (st_ret (l_of e_bl))
      ss_nil))
end
theorem facts {K : PySem.W.Frag} {h : Heap} {mg : Str → Option Value} (X : K.In h) (G : h.Ns mainGlobals mg) (c : He.SaysD fa fn K) : Hx K mg where
  d__law_begun := dn_of X G c 0 0 rfl rfl
  d__law_due := dn_of X G c 1 1 rfl rfl
  d__law_folded := dn_of X G c 2 2 rfl rfl
  d__law_less := dn_of X G c 3 3 rfl rfl
  d__law_take := dn_of X G c 4 4 rfl rfl
  d_counted_heap := dn_of X G c 5 5 rfl rfl
  d_counts_of := dn_of X G c 6 6 rfl rfl
  d_is_full := dn_of X G c 7 7 rfl rfl
  d_is_whole := dn_of X G c 8 8 rfl rfl
  d__law_full_lot := dn_of X G c 9 9 rfl rfl
  d__law_other_lot := dn_of X G c 10 10 rfl rfl
  d__law_wide := dn_of X G c 11 11 rfl rfl
  d_counts_taken := dn_of X G c 12 12 rfl rfl
  d_is_size := dn_of X G c 13 13 rfl rfl
  d_taken_from := dn_of X G c 14 14 rfl rfl
  d__law_filling := dn_of X G c 15 15 rfl rfl
  d__law_many := dn_of X G c 16 16 rfl rfl
  d__law_need := dn_of X G c 17 17 rfl rfl
  d__law_size := dn_of X G c 18 18 rfl rfl
  d__law_spoilt := dn_of X G c 19 19 rfl rfl
  d_is_lot := dn_of X G c 20 20 rfl rfl
  d__law_heap := dn_of X G c 21 21 rfl rfl
  d__law_small_heap := dn_of X G c 22 22 rfl rfl
  d_filling_holds := dn_of X G c 23 23 rfl rfl
  d__law_cases := dn_of X G c 24 24 rfl rfl
  d_law := dn_of X G c 25 25 rfl rfl
  b_abs := fr_of X G c 26 rfl
  b_all := fr_of X G c 27 rfl
  b_bool := fr_of X G c 28 rfl
  b_dict := fr_of X G c 29 rfl
  b_enumerate := fr_of X G c 30 rfl
  b_int := fr_of X G c 31 rfl
  b_isinstance := fr_of X G c 32 rfl
  b_len := fr_of X G c 33 rfl
  b_list := fr_of X G c 34 rfl
  b_max := fr_of X G c 35 rfl
  b_min := fr_of X G c 36 rfl
  b_range := fr_of X G c 37 rfl
  b_sorted := fr_of X G c 38 rfl
  b_str := fr_of X G c 39 rfl
  b_sum := fr_of X G c 40 rfl
  b_tuple := fr_of X G c 41 rfl
  g_MOST_IN_LOT := gi_of X G c 42 rfl
  g_MOST_SIZE := gi_of X G c 43 rfl
end Lk14
open PySem PySem.W PySem.Calls PyProof.Rows
theorem PySem.Challenge.cw_brimyard_k14_fillings_judged_holds : PySem.Challenge.rw_brimyard_k14_fillings_judged.Holds := by
  w_on; o_law
  refine HandSHeadRun.head_any (r := OpenLaw.row PySem.Challenge.rw_brimyard_k14_fillings_judged) (q := view (OpenLaw.row PySem.Challenge.rw_brimyard_k14_fillings_judged).prog [32]) (H := Lk14.hk) (ob := Lk14.ob) (M := 4360) (loose := ["is_whole", "MOST_SIZE", "is_size", "counted_heap", "counts_of", "taken_from", "MOST_IN_LOT", "is_lot", "is_full", "counts_taken", "filling_holds", "_law_folded", "_law_begun", "_law_take", "_law_wide", "_law_need", "_law_size", "_law_many", "_law_heap", "_law_small_heap", "_law_less", "_law_full_lot", "_law_filling", "_law_due", "_law_other_lot", "_law_spoilt", "_law_cases"]) (d := HandSHeadRun.topDef (OpenLaw.row PySem.Challenge.rw_brimyard_k14_fillings_judged).prog 32) (kwd := []) Lk14.ob_eq
    (by kernel_rfl) (fun s => by kernel_rfl) Lk14.run (by kernel_rfl) (by kernel_rfl) (by kernel_rfl) (by rfl) (by first | assumption | decide +kernel) (by decide +kernel) ⟨rfl, rfl, rfl, rfl, rfl, by decide +kernel⟩ ?hw ?hc
  case hw => w_witness2
  case hc =>
    refine Br.walk_P (l := PySem.Challenge.rw_brimyard_k14_fillings_judged) (n := 63) (x := "script") (g := Cm.g_law_7f4e) rfl (by decide) (by kernel_rfl) Cm.law_7f4e_pure ?F
    intro w mg h Y G
    obtain ⟨K, KX, c⟩ := Y
    have hx := Lk14.facts KX G c
    refine ⟨K, KX, fun base _ _ => ?_⟩
    have e : (HandSHeadRun.topDef (OpenLaw.row PySem.Challenge.rw_brimyard_k14_fillings_judged).prog 32).name = ("law" : PySem.Str) := by kernel_rfl
    rw [e]
    exact Lk14.ok_law hx
